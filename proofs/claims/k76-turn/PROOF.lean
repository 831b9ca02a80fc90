import PyProof.Rows.All
import Wide.All
import OpenK.AllK
import Wide.FinOn
import HandS.ForMost
import HandS.ForExc
import HandS.Codes
import HandS.IsInst
import HandS.Flow
import HandS.Walk
import HandS.Conv
import HandS.EndBits
import KE.GoesEnum
import HandS.ExcInit
import HandS.ExcField
import HandS.TupAny
import HandS.TryMany
import PyProof.EqAt
import HandS.More
import HandS.SetKeys
import HandS.DictComp
import HandS.MakeKwOnly
import KE.KExcIs
import HandS.ExcIs
import HandS.Style
import HandS.EndTab
import KE.KNestM
import KE.OsRunLaw
import HandS.Head2
import KE.RegKIsAll
import PySem.Challenge.RW_firstmet_k76_turn
set_option Elab.async false
set_option linter.all false
set_option maxRecDepth 100000
set_option maxHeartbeats 8000000
/-! Firstmet: short words over the hand layer: a def by its name, heaps that keep what stood, data. -/
namespace Fm
open PySem PySem.Spec PyProof.Rows L2
/-! ### a def of the top, by its name -/
def Dfn (K : PySem.W.Frag) (mg : Str → Option Value) (x : Str) (st : Stmt) (ps : List Str) : Prop :=
  ∃ f fd, Fun K x x st f fd ∧ mg x = some (.ref f) ∧ Binds K fd ps []
def Has (P : Program) (w : World) (K : PySem.W.Frag) (mg : Str → Option Value) (base : Heap) (CX : CXT) (x : Str) (ps : List Str) (k : Nat) (sp : Sp) : Prop :=
  ∃ f fd, FnOk P w K mg base CX k f fd ps sp ∧ mg x = some (.ref f) ∧ PySem.W.keepIn K (.ref f) = true ∧ Binds K fd ps []
section
variable {P : Program} {w : World} {K : PySem.W.Frag} {mg : Str → Option Value} {base : Heap}
theorem Dfn.has {x : Str} {st : Stmt} {N ps : List Str} {k : Nat} {sp : Sp} (D : Dfn K mg x st ps) (S : FnScope N ps (defScope st)) (len : ∀ vs H Q E, sp vs H Q E → vs.length = ps.length)
    (body : ∀ (f : Addr) (cdv : Value) (A : Around) (outer : List Env) (s : Shared) (H : Hp) (vs : List V) (Q : VK) (E : XK), Room k (A.deeper (envOfC x (defScope st) s.heap.objs.size f cdv)) → sp vs H Q E →
      ∃ t, PSs (cxOf CX0 P w K mg base N x (defScope st) f cdv A outer s H E).nox (defBody st) t ∧ t { nx := fun _ H' => Q .non H', rt := Q } (start N vs) H) :
    Has P w K mg base CX0 x ps (k + 1) sp := by
  obtain ⟨f, fd, F, g, b⟩ := D
  exact ⟨f, fd, F.ok S len (fun cdv A outer s H vs Q E => body f cdv A outer s H vs Q E), g, F.kp, b⟩
theorem Dfn.hasX {x : Str} {st : Stmt} {N ps : List Str} {k : Nat} {sp : Sp} (D : Dfn K mg x st ps) (S : FnScope N ps (defScope st)) (len : ∀ vs H Q E, sp vs H Q E → vs.length = ps.length)
    (body : ∀ (f : Addr) (cdv : Value) (A : Around) (outer : List Env) (s : Shared) (H : Hp) (vs : List V) (Q : VK) (E : XK), Room k (A.deeper (envOfC x (defScope st) s.heap.objs.size f cdv)) → sp vs H Q E →
      ∃ t, PSs (cxOf (L2.CX P w) P w K mg base N x (defScope st) f cdv A outer s H E) (defBody st) t ∧ t { nx := fun _ H' => Q .non H', rt := Q } (start N vs) H) :
    Has P w K mg base (L2.CX P w) x ps (k + 1) sp := by
  obtain ⟨f, fd, F, g, b⟩ := D
  exact ⟨f, fd, F.okX S len (fun cdv A outer s H vs Q E => body f cdv A outer s H vs Q E), g, F.kp, b⟩
theorem Has.mono {CX : CXT} {x : Str} {ps : List Str} {j k : Nat} {sp : Sp} (h : Has P w K mg base CX x ps j sp) (hj : j ≤ k) : Has P w K mg base CX x ps k sp := by
  obtain ⟨f, fd, F, r⟩ := h
  exact ⟨f, fd, F.mono hj, r⟩
theorem Has.imp {CX : CXT} {x : Str} {ps : List Str} {k : Nat} {sp sp' : Sp} (h : Has P w K mg base CX x ps k sp) (i : ∀ vs H Q E, sp' vs H Q E → sp vs H Q E) : Has P w K mg base CX x ps k sp' := by
  obtain ⟨f, fd, F, r⟩ := h
  exact ⟨f, fd, F.imp i, r⟩
end
/-- f(e, ..), f a def that raises nothing -/
theorem pe_has {X : Cx} {k : Nat} {x : Str} {ps : List Str} {sp : Sp} {e : Expr} {es : List Expr} {t : TA} {p pos : Pos} (h : Has X.prog X.w X.K X.mg X.base CX0 x ps k sp) (hr : Room k X.A) (ha : PA X (e :: es) t) (hg : Gl X x := by rfl)
    (hdb : (x == ("__debug__" : Str)) = false := by decide) (he : starEach (e :: es) X.env = (false, eval e X.env) :: starEach es X.env := by rfl) (hpl : (backTo pos (starEach es X.env)).any (·.1) = false := by rfl) :
    PE X (.Call (.Name x p) (e :: es) [] pos) (tCall sp [] E0 t) := by
  obtain ⟨f, fd, F, g, kp, b⟩ := h
  exact pe_call F hr hg g kp b .nil pass0 ha hdb he hpl
/-! ### heaps -/
/-- all that stood stands, but for what is at ms; tuples stand in any case -/
structure Kp (ms : List Addr) (H H' : Hp) : Prop where
  at_ : ∀ a o, H a = some o → a ∉ ms → H' a = some o
  tp : ∀ a xs, H a = some (.tup xs) → H' a = some (.tup xs)
theorem Kp.refl {ms : List Addr} (H : Hp) : Kp ms H H := ⟨fun _ _ h _ => h, fun _ _ h => h⟩
theorem Kp.trans {ms : List Addr} {H H1 H2 : Hp} (a : Kp ms H H1) (b : Kp ms H1 H2) : Kp ms H H2 := ⟨fun c o h n => b.at_ c o (a.at_ c o h n) n, fun c xs h => b.tp c xs (a.tp c xs h)⟩
theorem Kp.mono {ms ms' : List Addr} {H H' : Hp} (a : Kp ms H H') (h : ∀ x ∈ ms, x ∈ ms') : Kp ms' H H' := ⟨fun c o e n => a.at_ c o e fun z => n (h c z), a.tp⟩
theorem Kp.zero {ms : List Addr} {H H' : Hp} (a : Kp [] H H') : Kp ms H H' := a.mono fun _ h => nomatch h
theorem Kp.same {H H' : Hp} (a : Kp [] H H') : Same H H' := fun b o e => a.at_ b o e (fun z => nomatch z)
theorem Kp.new {ms : List Addr} {H : Hp} {p : Addr} {o : HO} (h : H p = none) : Kp ms H (upd H p o) :=
  ⟨fun _ _ e _ => (upd_ne (ne_of_none e h)).trans e, fun _ _ e => (upd_ne (ne_of_none e h)).trans e⟩
theorem Kp.snoc {ms : List Addr} {H H' : Hp} {p : Addr} {o : HO} (a : Kp ms H H') (h : H' p = none) : Kp ms H (upd H' p o) := a.trans (Kp.new h)
theorem Kp.late {ms : List Addr} {H H' : Hp} {p : Addr} {o : HO} (a : Kp ms H H') (h : H p = none) : Kp ms H (L2.upd H' p o) :=
  ⟨fun b u e n => (upd_ne (ne_of_none e h)).trans (a.at_ b u e n), fun b xs e => (upd_ne (ne_of_none e h)).trans (a.tp b xs e)⟩
theorem Kp.set {ms : List Addr} {H : Hp} {p : Addr} {o o' : HO} (e : H p = some o) (hn : ∀ xs, o ≠ .tup xs) (hm : p ∈ ms) : Kp ms H (upd H p o') :=
  ⟨fun b u h n => (upd_ne (fun z => n (by rw [z]; exact hm))).trans h, fun b xs h => (upd_ne (fun z => by rw [z, e] at h; exact hn xs (Option.some.inj h))).trans h⟩
theorem Kp.updL {ms : List Addr} {H : Hp} {p : Addr} {ys : List V} {o' : HO} (e : H p = some (.lst ys)) (hm : p ∈ ms) : Kp ms H (L2.upd H p o') := Kp.set e (fun _ z => by cases z) hm
theorem Kp.free {ms : List Addr} {H H' : Hp} {p : Addr} (a : Kp ms H H') (h : H' p = Option.none) (hm : ∀ x ∈ ms, ∃ o, H' x = some o) : H p = Option.none := by
  cases e : H p with
  | none => rfl
  | some o =>
    by_cases z : p ∈ ms
    · obtain ⟨o', h'⟩ := hm p z
      rw [h'] at h
      cases h
    · rw [a.at_ p o e z] at h
      cases h
theorem upd_upd {H : Hp} {a : Addr} {o o' : HO} : upd (upd H a o) a o' = upd H a o' := by
  funext b
  by_cases z : b = a
  · rw [z, upd_same, upd_same]
  · rw [upd_ne z, upd_ne z, upd_ne z]
/-! ### names of the built-ins -/
structure Bi (mg : Str → Option Value) : Prop where
  len : mg "len" = none
  list : mg "list" = none
  tuple : mg "tuple" = none
  isinstance : mg "isinstance" = none
  int : mg "int" = none
  range : mg "range" = none
  max : mg "max" = none
  all : mg "all" = none
  bool : mg "bool" = none
  dict : mg "dict" = none
  str : mg "str" = none
  enumerate : mg "enumerate" = none
/-! ### the bag of draws -/
structure Bag (H : Hp) (b c : Addr) : Prop where
  bg : ∃ i z m n k : Int, H b = some (.lst [.ref c, .int i, .int z, .int m, .int n, .int k]) ∧ 0 ≤ i ∧ 0 ≤ z
  cl : ∃ cs : List Int, H c = some (.lst (cs.map V.int)) ∧ cs.length ≤ 63
theorem Bag.ne {H : Hp} {b c : Addr} (B : Bag H b c) : c ≠ b := fun z => by
  obtain ⟨⟨i, z', m, n, k, h, _⟩, ⟨cs, h2, _⟩⟩ := B
  rw [z, h] at h2
  cases cs with
  | nil => cases h2
  | cons x r => cases h2
theorem Bag.keep {H H' : Hp} {b c : Addr} {ms : List Addr} (B : Bag H b c) (k : Kp ms H H') (hb : b ∉ ms) (hc : c ∉ ms) : Bag H' b c := by
  obtain ⟨⟨i, z', m, n, k', h, hi⟩, ⟨cs, h2, hl⟩⟩ := B
  exact ⟨⟨i, z', m, n, k', k.at_ _ _ h hb, hi⟩, ⟨cs, k.at_ _ _ h2 hc, hl⟩⟩
theorem Bag.keep0 {H H' : Hp} {b c : Addr} (B : Bag H b c) (k : Kp [] H H') : Bag H' b c := B.keep k (fun z => nomatch z) (fun z => nomatch z)
theorem Bag.someB {H : Hp} {b c : Addr} (B : Bag H b c) : ∃ o, H b = some o := let ⟨_, _, _, _, _, h, _⟩ := B.bg; ⟨_, h⟩
theorem Bag.someC {H : Hp} {b c : Addr} (B : Bag H b c) : ∃ o, H c = some o := let ⟨_, h, _⟩ := B.cl; ⟨_, h⟩
theorem Kp.freeB {H H' : Hp} {b c p : Addr} (a : Kp [b] H H') (B : Bag H' b c) (h : H' p = Option.none) : H p = Option.none :=
  a.free h fun x hx => by
    have e : x = b := by simpa using hx
    rw [e]; exact B.someB
end Fm

namespace Fm
open PySem PySem.Spec PyProof.Rows L2
def topS (i : Nat) : Stmt := PySem.Challenge.pw_firstmet_k76_turn.main.body.getD i (.Pass ⟨0, 0, 0, 0⟩)
abbrev s_BadShape_init : Stmt := inClass (topS 3) 0
theorem sc_BadShape_init : FnScope ["self", "at"] ["self", "at"] (defScope s_BadShape_init) := ⟨rfl, rfl, rfl, by decide +kernel, rfl, by decide +kernel, by decide +kernel⟩
abbrev s_BadMove_init : Stmt := inClass (topS 7) 0
theorem sc_BadMove_init : FnScope ["self", "value"] ["self", "value"] (defScope s_BadMove_init) := ⟨rfl, rfl, rfl, by decide +kernel, rfl, by decide +kernel, by decide +kernel⟩
abbrev s_is_row : Stmt := topS 11
theorem sc_is_row : FnScope ["thing"] ["thing"] (defScope s_is_row) := ⟨rfl, rfl, rfl, by decide +kernel, rfl, by decide +kernel, by decide +kernel⟩
abbrev s_is_integer : Stmt := topS 12
theorem sc_is_integer : FnScope ["thing"] ["thing"] (defScope s_is_integer) := ⟨rfl, rfl, rfl, by decide +kernel, rfl, by decide +kernel, by decide +kernel⟩
abbrev s_is_value : Stmt := topS 13
theorem sc_is_value : FnScope ["thing"] ["thing"] (defScope s_is_value) := ⟨rfl, rfl, rfl, by decide +kernel, rfl, by decide +kernel, by decide +kernel⟩
abbrev s_is_name : Stmt := topS 14
theorem sc_is_name : FnScope ["thing", "letter"] ["thing"] (defScope s_is_name) := ⟨rfl, rfl, rfl, by decide +kernel, rfl, by decide +kernel, by decide +kernel⟩
abbrev s_are_names : Stmt := topS 15
theorem sc_are_names : FnScope ["thing", "least", "most", "at", "name"] ["thing", "least", "most"] (defScope s_are_names) := ⟨rfl, rfl, rfl, by decide +kernel, rfl, by decide +kernel, by decide +kernel⟩
abbrev s_is_table : Stmt := topS 16
theorem sc_is_table : FnScope ["thing"] ["thing"] (defScope s_is_table) := ⟨rfl, rfl, rfl, by decide +kernel, rfl, by decide +kernel, by decide +kernel⟩
abbrev s_Shape_init : Stmt := inClass (topS 17) 0
theorem sc_Shape_init : FnScope ["self", "tables", "names", "made", "at", "table"] ["self", "tables"] (defScope s_Shape_init) := ⟨rfl, rfl, rfl, by decide +kernel, rfl, by decide +kernel, by decide +kernel⟩
abbrev s_has_form : Stmt := topS 26
theorem sc_has_form : FnScope ["statement"] ["statement"] (defScope s_has_form) := ⟨rfl, rfl, rfl, by decide +kernel, rfl, by decide +kernel, by decide +kernel⟩
abbrev s_is_block : Stmt := topS 27
theorem sc_is_block : FnScope ["thing"] ["thing"] (defScope s_is_block) := ⟨rfl, rfl, rfl, by decide +kernel, rfl, by decide +kernel, by decide +kernel⟩
abbrev s_Checker_init : Stmt := inClass (topS 28) 0
abbrev N_Checker_init : List Str := ["self", "shape", "blocks", "name", "keys", "sums"]
theorem sc_Checker_init : FnScope ["self", "shape", "blocks", "name", "keys", "sums"] ["self", "shape", "blocks"] (defScope s_Checker_init) := ⟨rfl, rfl, rfl, by decide +kernel, rfl, by decide +kernel, by decide +kernel⟩
abbrev s_Checker_first_wrong : Stmt := inClass (topS 28) 1
theorem sc_Checker_first_wrong : FnScope ["self", "statement", "path", "around", "inner", "at", "part", "found"] ["self", "statement", "path", "around"] (defScope s_Checker_first_wrong) := ⟨rfl, rfl, rfl, by decide +kernel, rfl, by decide +kernel, by decide +kernel⟩
abbrev s_Checker_fits : Stmt := inClass (topS 28) 2
theorem sc_Checker_fits : FnScope ["self", "statement", "top", "around", "word"] ["self", "statement", "top", "around"] (defScope s_Checker_fits) := ⟨rfl, rfl, rfl, by decide +kernel, rfl, by decide +kernel, by decide +kernel⟩
abbrev s_Checker_fits_table : Stmt := inClass (topS 28) 3
theorem sc_Checker_fits_table : FnScope ["self", "statement", "around", "word", "v", "table", "fields"] ["self", "statement", "around"] (defScope s_Checker_fits_table) := ⟨rfl, rfl, rfl, by decide +kernel, rfl, by decide +kernel, by decide +kernel⟩
abbrev s_Checker_fits_entry : Stmt := inClass (topS 28) 4
theorem sc_Checker_fits_entry : FnScope ["self", "statement", "top", "around", "word", "v", "block", "putters", "keys", "sums"] ["self", "statement", "top", "around"] (defScope s_Checker_fits_entry) := ⟨rfl, rfl, rfl, by decide +kernel, rfl, by decide +kernel, by decide +kernel⟩
abbrev s_Checker_fits_put : Stmt := inClass (topS 28) 5
theorem sc_Checker_fits_put : FnScope ["self", "statement", "top", "around", "block", "terms", "adds", "keys", "sums", "products", "one", "putters"] ["self", "statement", "top", "around"] (defScope s_Checker_fits_put) := ⟨rfl, rfl, rfl, by decide +kernel, rfl, by decide +kernel, by decide +kernel⟩
abbrev s_Checker_is_read : Stmt := inClass (topS 28) 6
theorem sc_Checker_is_read : FnScope ["self", "thing", "around", "sums_too", "entry", "fields", "sums"] ["self", "thing", "around", "sums_too"] (defScope s_Checker_is_read) := ⟨rfl, rfl, rfl, by decide +kernel, rfl, by decide +kernel, by decide +kernel⟩
abbrev s_Checker_is_term : Stmt := inClass (topS 28) 7
theorem sc_Checker_is_term : FnScope ["self", "thing", "around"] ["self", "thing", "around"] (defScope s_Checker_is_term) := ⟨rfl, rfl, rfl, by decide +kernel, rfl, by decide +kernel, by decide +kernel⟩
abbrev s_Checker_are_terms : Stmt := inClass (topS 28) 8
theorem sc_Checker_are_terms : FnScope ["self", "thing", "many", "around", "term"] ["self", "thing", "many", "around"] (defScope s_Checker_are_terms) := ⟨rfl, rfl, rfl, by decide +kernel, rfl, by decide +kernel, by decide +kernel⟩
abbrev s_Checker_is_product : Stmt := inClass (topS 28) 9
abbrev N_Checker_is_product : List Str := ["self", "thing", "around", "multiple", "factors", "factor", "v", "entry", "fields", "sums"]
theorem sc_Checker_is_product : FnScope ["self", "thing", "around", "multiple", "factors", "factor", "v", "entry", "fields", "sums"] ["self", "thing", "around"] (defScope s_Checker_is_product) := ⟨rfl, rfl, rfl, by decide +kernel, rfl, by decide +kernel, by decide +kernel⟩
abbrev s_kept_adds : Stmt := topS 29
abbrev N_kept_adds : List Str := ["adds", "multiple", "factors", "products"]
theorem sc_kept_adds : FnScope ["adds", "multiple", "factors", "products"] ["adds"] (defScope s_kept_adds) := ⟨rfl, rfl, rfl, by decide +kernel, rfl, by decide +kernel, by decide +kernel⟩
abbrev s_kept_statement : Stmt := topS 30
abbrev N_kept_statement : List Str := ["statement", "body", "part"]
theorem sc_kept_statement : FnScope ["statement", "body", "part"] ["statement"] (defScope s_kept_statement) := ⟨rfl, rfl, rfl, by decide +kernel, rfl, by decide +kernel, by decide +kernel⟩
abbrev s_kept_blocks : Stmt := topS 31
abbrev N_kept_blocks : List Str := ["shape", "blocks", "names", "kept", "at", "block", "name", "fields"]
theorem sc_kept_blocks : FnScope ["shape", "blocks", "names", "kept", "at", "block", "name", "fields"] ["shape", "blocks"] (defScope s_kept_blocks) := ⟨rfl, rfl, rfl, by decide +kernel, rfl, by decide +kernel, by decide +kernel⟩
abbrev s_Program_init : Stmt := inClass (topS 32) 0
abbrev N_Program_init : List Str := ["self", "shape", "blocks", "body", "kept", "checker", "at", "statement", "found"]
theorem sc_Program_init : FnScope ["self", "shape", "blocks", "body", "kept", "checker", "at", "statement", "found"] ["self", "shape", "blocks", "body"] (defScope s_Program_init) := ⟨rfl, rfl, rfl, by decide +kernel, rfl, by decide +kernel, by decide +kernel⟩
abbrev s_is_index : Stmt := topS 40
theorem sc_is_index : FnScope ["thing"] ["thing"] (defScope s_is_index) := ⟨rfl, rfl, rfl, by decide +kernel, rfl, by decide +kernel, by decide +kernel⟩
abbrev s_statement_at : Stmt := topS 41
theorem sc_statement_at : FnScope ["body", "path", "found", "index"] ["body", "path"] (defScope s_statement_at) := ⟨rfl, rfl, rfl, by decide +kernel, rfl, by decide +kernel, by decide +kernel⟩
abbrev s_replaced : Stmt := topS 42
theorem sc_replaced : FnScope ["body", "path", "statement", "at", "old"] ["body", "path", "statement"] (defScope s_replaced) := ⟨rfl, rfl, rfl, by decide +kernel, rfl, by decide +kernel, by decide +kernel⟩
abbrev s_names : Stmt := topS 43
theorem sc_names : FnScope ["term", "variable"] ["term", "variable"] (defScope s_names) := ⟨rfl, rfl, rfl, by decide +kernel, rfl, by decide +kernel, by decide +kernel⟩
abbrev s_body_out : Stmt := topS 44
abbrev s_body_turn : Stmt := topS 45
theorem sc_body_turn : FnScope ["body", "path", "outer", "inner", "loop"] ["body", "path"] (defScope s_body_turn) := ⟨rfl, rfl, rfl, by decide +kernel, rfl, by decide +kernel, by decide +kernel⟩
abbrev s_body_seek : Stmt := topS 46
abbrev s_body_scan : Stmt := topS 47
abbrev s_after_hold : Stmt := topS 54
abbrev s_top_body : Stmt := topS 55
abbrev s_after_move : Stmt := topS 56
theorem sc_after_move : FnScope ["program", "move", "body"] ["program", "move"] (defScope s_after_move) := ⟨rfl, rfl, rfl, by decide +kernel, rfl, by decide +kernel, by decide +kernel⟩
abbrev s_moved : Stmt := topS 57
theorem sc_moved : FnScope ["program", "move", "after"] ["program", "move"] (defScope s_moved) := ⟨rfl, rfl, rfl, by decide +kernel, rfl, by decide +kernel, by decide +kernel⟩
abbrev s__law_bag : Stmt := topS 59
theorem sc__law_bag : FnScope ["_law_script"] ["_law_script"] (defScope s__law_bag) := ⟨rfl, rfl, rfl, by decide +kernel, rfl, by decide +kernel, by decide +kernel⟩
abbrev s__law_pick : Stmt := topS 60
theorem sc__law_pick : FnScope ["_law_bag_here", "_law_many", "_law_cell", "_law_found", "_law_one"] ["_law_bag_here", "_law_many"] (defScope s__law_pick) := ⟨rfl, rfl, rfl, by decide +kernel, rfl, by decide +kernel, by decide +kernel⟩
abbrev s__law_name : Stmt := topS 61
abbrev N__law_name : List Str := ["_law_bag_here", "_law_taken", "_law_letters", "_law_word", "_law_stem", "_law_k"]
theorem sc__law_name : FnScope ["_law_bag_here", "_law_taken", "_law_letters", "_law_word", "_law_stem", "_law_k"] ["_law_bag_here", "_law_taken"] (defScope s__law_name) := ⟨rfl, rfl, rfl, by decide +kernel, rfl, by decide +kernel, by decide +kernel⟩
abbrev s__law_value : Stmt := topS 62
theorem sc__law_value : FnScope ["_law_bag_here", "_law_number"] ["_law_bag_here"] (defScope s__law_value) := ⟨rfl, rfl, rfl, by decide +kernel, rfl, by decide +kernel, by decide +kernel⟩
abbrev s__law_tables : Stmt := topS 63
theorem sc__law_tables : FnScope ["_law_bag_here", "_law_taken", "_law_tables_here", "_law_k", "_law_name_here", "_law_fields", "_law_j"] ["_law_bag_here"] (defScope s__law_tables) := ⟨rfl, rfl, rfl, by decide +kernel, rfl, by decide +kernel, by decide +kernel⟩
abbrev s__law_blocks : Stmt := topS 64
abbrev N__law_blocks : List Str := ["_law_bag_here", "_law_tables_here", "_law_many", "_law_taken", "_law_blocks_here", "_law_k", "_law_name_here", "_law_size", "_law_names", "_law_j", "_law_fields"]
theorem sc__law_blocks : FnScope ["_law_bag_here", "_law_tables_here", "_law_many", "_law_taken", "_law_blocks_here", "_law_k", "_law_name_here", "_law_size", "_law_names", "_law_j", "_law_fields"] ["_law_bag_here", "_law_tables_here", "_law_many"] (defScope s__law_blocks) := ⟨rfl, rfl, rfl, by decide +kernel, rfl, by decide +kernel, by decide +kernel⟩
abbrev s__law_term : Stmt := topS 65
theorem sc__law_term : FnScope ["_law_bag_here", "_law_scope", "_law_v", "_law_fields", "_law_sums"] ["_law_bag_here", "_law_scope"] (defScope s__law_term) := ⟨rfl, rfl, rfl, by decide +kernel, rfl, by decide +kernel, by decide +kernel⟩
abbrev s__law_product : Stmt := topS 66
theorem sc__law_product : FnScope ["_law_bag_here", "_law_scope", "_law_multiple", "_law_factors", "_law_v", "_law_fields", "_law_sums", "_law_k", "_law_names", "_law_at"] ["_law_bag_here", "_law_scope"] (defScope s__law_product) := ⟨rfl, rfl, rfl, by decide +kernel, rfl, by decide +kernel, by decide +kernel⟩
abbrev s__law_put : Stmt := topS 67
abbrev N__law_put : List Str := ["_law_bag_here", "_law_block", "_law_scope", "_law_name_here", "_law_keys", "_law_sums", "_law_terms", "_law_adds", "_law_each", "_law_many", "_law_key", "_law_k"]
theorem sc__law_put : FnScope ["_law_bag_here", "_law_block", "_law_scope", "_law_name_here", "_law_keys", "_law_sums", "_law_terms", "_law_adds", "_law_each", "_law_many", "_law_key", "_law_k"] ["_law_bag_here", "_law_block", "_law_scope"] (defScope s__law_put) := ⟨rfl, rfl, rfl, by decide +kernel, rfl, by decide +kernel, by decide +kernel⟩
abbrev s__law_opening : Stmt := topS 68
abbrev N__law_opening : List Str := ["_law_bag_here", "_law_tables_here", "_law_readable", "_law_scope", "_law_v", "_law_choice", "_law_name_here", "_law_fields", "_law_field", "_law_keys", "_law_sums", "_law_entry", "_law_key"]
theorem sc__law_opening : FnScope ["_law_bag_here", "_law_tables_here", "_law_readable", "_law_scope", "_law_v", "_law_choice", "_law_name_here", "_law_fields", "_law_field", "_law_keys", "_law_sums", "_law_entry", "_law_key"] ["_law_bag_here", "_law_tables_here", "_law_readable", "_law_scope"] (defScope s__law_opening) := ⟨rfl, rfl, rfl, by decide +kernel, rfl, by decide +kernel, by decide +kernel⟩
abbrev s__law_top : Stmt := topS 69
abbrev N__law_top : List Str := ["_law_bag_here", "_law_tables_here", "_law_readable", "_law_block", "_law_others", "_law_scope", "_law_openings", "_law_loops", "_law_k", "_law_parts", "_law_entry", "_law_body", "_law_branches", "_law_branch_here"]
theorem sc__law_top : FnScope ["_law_bag_here", "_law_tables_here", "_law_readable", "_law_block", "_law_others", "_law_scope", "_law_openings", "_law_loops", "_law_k", "_law_parts", "_law_entry", "_law_body", "_law_branches", "_law_branch_here"] ["_law_bag_here", "_law_tables_here", "_law_readable", "_law_block", "_law_others"] (defScope s__law_top) := ⟨rfl, rfl, rfl, by decide +kernel, rfl, by decide +kernel, by decide +kernel⟩
abbrev s__law_branch : Stmt := topS 70
theorem sc__law_branch : FnScope ["_law_bag_here", "_law_tables_here", "_law_readable", "_law_scope", "_law_block", "_law_parts", "_law_entry"] ["_law_bag_here", "_law_tables_here", "_law_readable", "_law_scope", "_law_block"] (defScope s__law_branch) := ⟨rfl, rfl, rfl, by decide +kernel, rfl, by decide +kernel, by decide +kernel⟩
abbrev s__law_open : Stmt := topS 71
abbrev N__law_open : List Str := ["_law_bag_here", "_law_tables_here", "_law_readable", "_law_openings", "_law_scope", "_law_parts", "_law_entry"]
theorem sc__law_open : FnScope ["_law_bag_here", "_law_tables_here", "_law_readable", "_law_openings", "_law_scope", "_law_parts", "_law_entry"] ["_law_bag_here", "_law_tables_here", "_law_readable", "_law_openings", "_law_scope"] (defScope s__law_open) := ⟨rfl, rfl, rfl, by decide +kernel, rfl, by decide +kernel, by decide +kernel⟩
abbrev s__law_around : Stmt := topS 72
theorem sc__law_around : FnScope ["_law_bag_here", "_law_tables_here", "_law_readable", "_law_least", "_law_most", "_law_openings", "_law_scope", "_law_k"] ["_law_bag_here", "_law_tables_here", "_law_readable", "_law_least", "_law_most"] (defScope s__law_around) := ⟨rfl, rfl, rfl, by decide +kernel, rfl, by decide +kernel, by decide +kernel⟩
abbrev s__law_idle_put : Stmt := topS 73
abbrev N__law_idle_put : List Str := ["_law_bag_here", "_law_block", "_law_key", "_law_each"]
theorem sc__law_idle_put : FnScope ["_law_bag_here", "_law_block", "_law_key", "_law_each"] ["_law_bag_here", "_law_block"] (defScope s__law_idle_put) := ⟨rfl, rfl, rfl, by decide +kernel, rfl, by decide +kernel, by decide +kernel⟩
abbrev s__law_wrapped : Stmt := topS 74
theorem sc__law_wrapped : FnScope ["_law_openings", "_law_statement", "_law_beside", "_law_at", "_law_side", "_law_path", "_law_depth", "_law_parts", "_law_body", "_law_index"] ["_law_openings", "_law_statement", "_law_beside", "_law_at", "_law_side"] (defScope s__law_wrapped) := ⟨rfl, rfl, rfl, by decide +kernel, rfl, by decide +kernel, by decide +kernel⟩
abbrev s__law_after : Stmt := topS 75
theorem sc__law_after : FnScope ["_law_program", "_law_move", "_law_told", "e"] ["_law_program", "_law_move"] (defScope s__law_after) := ⟨rfl, rfl, rfl, by decide +kernel, rfl, by decide +kernel, by decide +kernel⟩
abbrev s__law_is_program : Stmt := topS 76
theorem sc__law_is_program : FnScope ["_law_thing", "_law_tables_here", "_law_blocks_here", "_law_body"] ["_law_thing", "_law_tables_here", "_law_blocks_here", "_law_body"] (defScope s__law_is_program) := ⟨rfl, rfl, rfl, by decide +kernel, rfl, by decide +kernel, by decide +kernel⟩
abbrev s__law_leads : Stmt := topS 77
theorem sc__law_leads : FnScope ["_law_program", "_law_tables_here", "_law_blocks_here", "_law_body", "_law_move", "_law_due_blocks", "_law_due", "_law_after_here"] ["_law_program", "_law_tables_here", "_law_blocks_here", "_law_body", "_law_move", "_law_due_blocks", "_law_due"] (defScope s__law_leads) := ⟨rfl, rfl, rfl, by decide +kernel, rfl, by decide +kernel, by decide +kernel⟩
abbrev s__law_of : Stmt := topS 78
theorem sc__law_of : FnScope ["_law_term_here", "_law_variable"] ["_law_term_here", "_law_variable"] (defScope s__law_of) := ⟨rfl, rfl, rfl, by decide +kernel, rfl, by decide +kernel, by decide +kernel⟩
abbrev s__law_loop : Stmt := topS 79
theorem sc__law_loop : FnScope ["_law_bag_here", "_law_tables_here", "_law_held", "_law_scope", "_law_parts", "_law_entry"] ["_law_bag_here", "_law_tables_here", "_law_held", "_law_scope"] (defScope s__law_loop) := ⟨rfl, rfl, rfl, by decide +kernel, rfl, by decide +kernel, by decide +kernel⟩
abbrev s_law : Stmt := topS 80
theorem sc_law : FnScope ["_law_script", "_law_bag_here", "_law_crowd", "_law_at", "_law_side", "_law_tables_here", "_law_blocks_here", "_law_openings", "_law_scope", "_law_outer", "_law_middle", "_law_inner", "_law_within", "_law_inside", "_law_beside", "_law_lone", "_law_top_here", "_law_path", "_law_filling", "_law_loops", "_law_due", "_law_turned", "_law_body", "_law_program", "_law_move"] ["_law_script"] (defScope s_law) := ⟨rfl, rfl, rfl, by decide +kernel, rfl, by decide +kernel, by decide +kernel⟩
end Fm

namespace Fm
open PySem PySem.Spec PyProof.Rows L2
/-! ### data in the heap: v tells d, at most n deep; with q = true no dict in it is locked -/
def keyD : Key → PyData
  | .inl i => .int i
  | .inr x => .str x
def DkAt (q : Bool) (H : Hp) (a : Addr) (kvs : List (Key × V)) : Prop := if q = true then H a = some (.dK kvs) else Rd H a (.dK kvs)
mutual
inductive Dt (S : Addr → Prop) (q : Bool) (H : Hp) : Nat → V → PyData → Prop
  | non {n : Nat} : Dt S q H n .non .none
  | bl {n : Nat} (b : Bool) : Dt S q H n (.bl b) (.bool b)
  | int {n : Nat} (i : Int) : Dt S q H n (.int i) (.int i)
  | str {n : Nat} (x : Str) (h : x.length ≤ 1000000) : Dt S q H n (.str x) (.str x)
  | lst {n : Nat} {a : Addr} {xs : List V} {ds : List PyData} : Rd H a (.lst xs) → xs.length ≤ 1000000 ∧ S a → DtAll S q H n xs ds → Dt S q H (n + 1) (.ref a) (.list ds)
  | tup {n : Nat} {a : Addr} {xs : List V} {ds : List PyData} : H a = some (.tup xs) → xs.length ≤ 1000000 ∧ S a → DtAll S q H n xs ds → Dt S q H (n + 1) (.ref a) (.tuple ds)
  | dic {n : Nat} {a : Addr} {kvs : List (Key × V)} {ds : List (PyData × PyData)} : DkAt q H a kvs → (kvs.length ≤ 1000000 ∧ (kvs.map (·.1)).Nodup) ∧ S a → DtKV S q H n kvs ds → Dt S q H (n + 1) (.ref a) (.dict ds)
inductive DtAll (S : Addr → Prop) (q : Bool) (H : Hp) : Nat → List V → List PyData → Prop
  | nil {n : Nat} : DtAll S q H n [] []
  | cons {n : Nat} {v : V} {vs : List V} {d : PyData} {ds : List PyData} : Dt S q H n v d → DtAll S q H n vs ds → DtAll S q H n (v :: vs) (d :: ds)
inductive DtKV (S : Addr → Prop) (q : Bool) (H : Hp) : Nat → List (Key × V) → List (PyData × PyData) → Prop
  | nil {n : Nat} : DtKV S q H n [] []
  | cons {n : Nat} {k : Key} {v : V} {vs : List (Key × V)} {d : PyData} {ds : List (PyData × PyData)} : Dt S q H n v d → DtKV S q H n vs ds → DtKV S q H n ((k, v) :: vs) ((keyD k, d) :: ds)
end

/-- what stood stands, or is locked now -/
def Sm (H H' : Hp) : Prop := ∀ a o, H a = some o → H' a = some o ∨ (∃ ob, H' a = some (.frz ob o)) ∧ (∀ ob u, o ≠ .frz ob u) ∧ ∀ xs, o ≠ .tup xs
theorem Sm.rd {H H' : Hp} (s : Sm H H') {a : Addr} {u : HO} (r : Rd H a u) : Rd H' a u := by
  rcases r with r | ⟨o, r⟩
  · rcases s a u r with h | ⟨⟨ob, h⟩, _⟩
    · exact .inl h
    · exact .inr ⟨ob, h⟩
  · rcases s a _ r with h | ⟨_, h⟩
    · exact .inr ⟨o, h⟩
    · exact absurd rfl (h.1 o u)
theorem Sm.tup {H H' : Hp} (s : Sm H H') {a : Addr} {xs : List V} (r : H a = some (.tup xs)) : H' a = some (.tup xs) := by
  rcases s a _ r with h | ⟨_, _, h⟩
  · exact h
  · exact absurd rfl (h xs)
theorem Kp.sm {H H' : Hp} (k : Kp [] H H') : Sm H H' := fun a o e => .inl (k.at_ a o e (fun z => nomatch z))
mutual
theorem Dt.sm {S : Addr → Prop} {H H' : Hp} (s : Sm H H') : ∀ {n : Nat} {v : V} {d : PyData}, Dt S false H n v d → Dt S false H' n v d
  | _, _, _, .non => .non
  | _, _, _, .bl b => .bl b
  | _, _, _, .int b => .int b
  | _, _, _, .str b h => .str b h
  | _, _, _, .lst r l a => .lst (s.rd r) l (DtAll.sm s a)
  | _, _, _, .tup r l a => .tup (s.tup r) l (DtAll.sm s a)
  | _, _, _, .dic r l a => .dic (show DkAt false H' _ _ from s.rd (show Rd H _ _ from r)) l (DtKV.sm s a)
theorem DtAll.sm {S : Addr → Prop} {H H' : Hp} (s : Sm H H') : ∀ {n : Nat} {v : List V} {d : List PyData}, DtAll S false H n v d → DtAll S false H' n v d
  | _, _, _, .nil => .nil
  | _, _, _, .cons a b => .cons (Dt.sm s a) (DtAll.sm s b)
theorem DtKV.sm {S : Addr → Prop} {H H' : Hp} (s : Sm H H') : ∀ {n : Nat} {v : List (Key × V)} {d : List (PyData × PyData)}, DtKV S false H n v d → DtKV S false H' n v d
  | _, _, _, .nil => .nil
  | _, _, _, .cons a b => .cons (Dt.sm s a) (DtKV.sm s b)
end

theorem Kp.rd {ms : List Addr} {H H' : Hp} {a : Addr} {u : HO} (k : Kp ms H H') (hm : a ∉ ms) (r : Rd H a u) : Rd H' a u := by
  rcases r with r | ⟨o, r⟩
  · exact .inl (k.at_ _ _ r hm)
  · exact .inr ⟨o, k.at_ _ _ r hm⟩
theorem rd_keep {H H' : Hp} {a : Addr} {u : HO} (s : ∀ o, H a = some o → H' a = some o) (r : Rd H a u) : Rd H' a u := by
  rcases r with r | ⟨o, r⟩
  · exact .inl (s _ r)
  · exact .inr ⟨o, s _ r⟩
mutual
theorem Dt.keep {S : Addr → Prop} {q : Bool} {H H' : Hp} (s : Kp [] H H') : ∀ {n : Nat} {v : V} {d : PyData}, Dt S q H n v d → Dt S q H' n v d
  | _, _, _, .non => .non
  | _, _, _, .bl b => .bl b
  | _, _, _, .int b => .int b
  | _, _, _, .str b h => .str b h
  | _, _, _, .lst r l a => .lst (s.rd (fun z => nomatch z) r) l (DtAll.keep s a)
  | _, _, _, .tup r l a => .tup (s.tp _ _ r) l (DtAll.keep s a)
  | _, _, _, .dic r l a => .dic (by
      unfold DkAt at r ⊢
      cases q with
      | true => exact s.at_ _ _ r (fun z => nomatch z)
      | false => exact s.rd (fun z => nomatch z) r) l (DtKV.keep s a)
theorem DtAll.keep {S : Addr → Prop} {q : Bool} {H H' : Hp} (s : Kp [] H H') : ∀ {n : Nat} {v : List V} {d : List PyData}, DtAll S q H n v d → DtAll S q H' n v d
  | _, _, _, .nil => .nil
  | _, _, _, .cons a b => .cons (Dt.keep s a) (DtAll.keep s b)
theorem DtKV.keep {S : Addr → Prop} {q : Bool} {H H' : Hp} (s : Kp [] H H') : ∀ {n : Nat} {v : List (Key × V)} {d : List (PyData × PyData)}, DtKV S q H n v d → DtKV S q H' n v d
  | _, _, _, .nil => .nil
  | _, _, _, .cons a b => .cons (Dt.keep s a) (DtKV.keep s b)
end

mutual
theorem Dt.keepS {S S' : Addr → Prop} {q : Bool} {H H' : Hp} (s : ∀ a o, S a → H a = some o → H' a = some o) (i : ∀ a, S a → S' a) : ∀ {n : Nat} {v : V} {d : PyData}, Dt S q H n v d → Dt S' q H' n v d
  | _, _, _, .non => .non
  | _, _, _, .bl b => .bl b
  | _, _, _, .int b => .int b
  | _, _, _, .str b h => .str b h
  | _, _, _, .lst r l a => .lst (rd_keep (fun o e => s _ o l.2 e) r) ⟨l.1, i _ l.2⟩ (DtAll.keepS s i a)
  | _, _, _, .tup r l a => .tup (s _ _ l.2 r) ⟨l.1, i _ l.2⟩ (DtAll.keepS s i a)
  | _, _, _, .dic r l a => .dic (by
      unfold DkAt at r ⊢
      cases q with
      | true => exact s _ _ l.2 r
      | false => exact rd_keep (fun o e => s _ o l.2 e) r) ⟨l.1, i _ l.2⟩ (DtKV.keepS s i a)
theorem DtAll.keepS {S S' : Addr → Prop} {q : Bool} {H H' : Hp} (s : ∀ a o, S a → H a = some o → H' a = some o) (i : ∀ a, S a → S' a) : ∀ {n : Nat} {v : List V} {d : List PyData}, DtAll S q H n v d → DtAll S' q H' n v d
  | _, _, _, .nil => .nil
  | _, _, _, .cons a b => .cons (Dt.keepS s i a) (DtAll.keepS s i b)
theorem DtKV.keepS {S S' : Addr → Prop} {q : Bool} {H H' : Hp} (s : ∀ a o, S a → H a = some o → H' a = some o) (i : ∀ a, S a → S' a) : ∀ {n : Nat} {v : List (Key × V)} {d : List (PyData × PyData)}, DtKV S q H n v d → DtKV S' q H' n v d
  | _, _, _, .nil => .nil
  | _, _, _, .cons a b => .cons (Dt.keepS s i a) (DtKV.keepS s i b)
end

theorem Dt.imp {S S' : Addr → Prop} {q : Bool} {H : Hp} {n : Nat} {v : V} {d : PyData} (h : Dt S q H n v d) (i : ∀ a, S a → S' a) : Dt S' q H n v d := h.keepS (fun _ _ _ e => e) i
theorem DtAll.imp {S S' : Addr → Prop} {q : Bool} {H : Hp} {n : Nat} {v : List V} {d : List PyData} (h : DtAll S q H n v d) (i : ∀ a, S a → S' a) : DtAll S' q H n v d := h.keepS (fun _ _ _ e => e) i
mutual
theorem Dt.weak {S : Addr → Prop} {H : Hp} : ∀ {q : Bool} {n : Nat} {v : V} {d : PyData}, Dt S q H n v d → Dt S false H n v d
  | _, _, _, _, .non => .non
  | _, _, _, _, .bl b => .bl b
  | _, _, _, _, .int b => .int b
  | _, _, _, _, .str b h => .str b h
  | _, _, _, _, .lst r l a => .lst r l (DtAll.weak a)
  | _, _, _, _, .tup r l a => .tup r l (DtAll.weak a)
  | q, _, _, _, .dic r l a => .dic (by
      unfold DkAt at r ⊢
      cases q with
      | true => exact .inl r
      | false => exact r) l (DtKV.weak a)
theorem DtAll.weak {S : Addr → Prop} {H : Hp} : ∀ {q : Bool} {n : Nat} {v : List V} {d : List PyData}, DtAll S q H n v d → DtAll S false H n v d
  | _, _, _, _, .nil => .nil
  | _, _, _, _, .cons a b => .cons (Dt.weak a) (DtAll.weak b)
theorem DtKV.weak {S : Addr → Prop} {H : Hp} : ∀ {q : Bool} {n : Nat} {v : List (Key × V)} {d : List (PyData × PyData)}, DtKV S q H n v d → DtKV S false H n v d
  | _, _, _, _, .nil => .nil
  | _, _, _, _, .cons a b => .cons (Dt.weak a) (DtKV.weak b)
end

mutual
theorem Dt.mono {S : Addr → Prop} {q : Bool} {H : Hp} : ∀ {n m : Nat} {v : V} {d : PyData}, n ≤ m → Dt S q H n v d → Dt S q H m v d
  | _, _, _, _, _, .non => .non
  | _, _, _, _, _, .bl b => .bl b
  | _, _, _, _, _, .int b => .int b
  | _, _, _, _, _, .str b h => .str b h
  | n + 1, m + 1, _, _, h, .lst r l a => .lst r l (DtAll.mono (Nat.le_of_succ_le_succ h) a)
  | n + 1, m + 1, _, _, h, .tup r l a => .tup r l (DtAll.mono (Nat.le_of_succ_le_succ h) a)
  | n + 1, m + 1, _, _, h, .dic r l a => .dic r l (DtKV.mono (Nat.le_of_succ_le_succ h) a)
theorem DtAll.mono {S : Addr → Prop} {q : Bool} {H : Hp} : ∀ {n m : Nat} {v : List V} {d : List PyData}, n ≤ m → DtAll S q H n v d → DtAll S q H m v d
  | _, _, _, _, _, .nil => .nil
  | _, _, _, _, h, .cons a b => .cons (Dt.mono h a) (DtAll.mono h b)
theorem DtKV.mono {S : Addr → Prop} {q : Bool} {H : Hp} : ∀ {n m : Nat} {v : List (Key × V)} {d : List (PyData × PyData)}, n ≤ m → DtKV S q H n v d → DtKV S q H m v d
  | _, _, _, _, _, .nil => .nil
  | _, _, _, _, h, .cons a b => .cons (Dt.mono h a) (DtKV.mono h b)
end

theorem rd_fun {H : Hp} {a : Addr} {u u' : HO} (r : Rd H a u) (r' : Rd H a u') (h : ∀ ob x, u ≠ .frz ob x) (h' : ∀ ob x, u' ≠ .frz ob x) : u = u' := by
  rcases r with r | ⟨o, r⟩ <;> rcases r' with r' | ⟨o', r'⟩ <;> rw [r] at r' <;> cases r'
  · rfl
  · exact absurd rfl (h _ _)
  · exact absurd rfl (h' _ _)
  · rfl
theorem keyD_inj {k k' : Key} (h : keyD k = keyD k') : k = k' := by
  cases k <;> cases k' <;> cases h <;> rfl
mutual
theorem Dt.det {S S' : Addr → Prop} {H : Hp} : ∀ {n m : Nat} {v : V} {d e : PyData}, Dt S false H n v d → Dt S' false H m v e → d = e
  | _, _, _, _, _, .non, .non => rfl
  | _, _, _, _, _, .bl _, .bl _ => rfl
  | _, _, _, _, _, .int _, .int _ => rfl
  | _, _, _, _, _, .str _ _, .str _ _ => rfl
  | _, _, _, _, _, .lst r l a, h => by
    cases h with
    | lst r' l' a' =>
      have e := rd_fun r r' (fun _ _ z => by cases z) (fun _ _ z => by cases z)
      cases e
      rw [DtAll.det a a']
    | tup r' l' a' =>
      have e := rd_fun r (.inl r') (fun _ _ z => by cases z) (fun _ _ z => by cases z)
      cases e
    | dic r' l' a' =>
      have e := rd_fun r (show Rd H _ _ from r') (fun _ _ z => by cases z) (fun _ _ z => by cases z)
      cases e
  | _, _, _, _, _, .tup r l a, h => by
    cases h with
    | lst r' l' a' =>
      have e := rd_fun (.inl r) r' (fun _ _ z => by cases z) (fun _ _ z => by cases z)
      cases e
    | tup r' l' a' =>
      have e := rd_fun (.inl r) (.inl r') (fun _ _ z => by cases z) (fun _ _ z => by cases z)
      cases e
      rw [DtAll.det a a']
    | dic r' l' a' =>
      have e := rd_fun (.inl r) (show Rd H _ _ from r') (fun _ _ z => by cases z) (fun _ _ z => by cases z)
      cases e
  | _, _, _, _, _, .dic r l a, h => by
    cases h with
    | lst r' l' a' =>
      have e := rd_fun (show Rd H _ _ from r) r' (fun _ _ z => by cases z) (fun _ _ z => by cases z)
      cases e
    | tup r' l' a' =>
      have e := rd_fun (show Rd H _ _ from r) (.inl r') (fun _ _ z => by cases z) (fun _ _ z => by cases z)
      cases e
    | dic r' l' a' =>
      have e := rd_fun (show Rd H _ _ from r) (show Rd H _ _ from r') (fun _ _ z => by cases z) (fun _ _ z => by cases z)
      cases e
      rw [DtKV.det a a']
theorem DtAll.det {S S' : Addr → Prop} {H : Hp} : ∀ {n m : Nat} {v : List V} {d e : List PyData}, DtAll S false H n v d → DtAll S' false H m v e → d = e
  | _, _, _, _, _, .nil, .nil => rfl
  | _, _, _, _, _, .cons a b, .cons a' b' => by rw [Dt.det a a', DtAll.det b b']
theorem DtKV.det {S S' : Addr → Prop} {H : Hp} : ∀ {n m : Nat} {v : List (Key × V)} {d e : List (PyData × PyData)}, DtKV S false H n v d → DtKV S' false H m v e → d = e
  | _, _, _, _, _, .nil, .nil => rfl
  | _, _, _, _, _, .cons a b, .cons a' b' => by rw [Dt.det a a', DtKV.det b b']
end


/-! ### items -/
theorem DtAll.len {S : Addr → Prop} {q : Bool} {H : Hp} : ∀ {n : Nat} {v : List V} {d : List PyData}, DtAll S q H n v d → v.length = d.length
  | _, _, _, .nil => rfl
  | _, _, _, .cons _ b => by rw [List.length_cons, List.length_cons, DtAll.len b]
theorem DtAll.get {S : Addr → Prop} {q : Bool} {H : Hp} : ∀ {n : Nat} {v : List V} {d : List PyData}, DtAll S q H n v d → ∀ {i : Nat} {x : PyData}, d[i]? = some x → ∃ y, v[i]? = some y ∧ Dt S q H n y x
  | _, _, _, .cons a b, 0, x, h => by cases h; exact ⟨_, rfl, a⟩
  | _, _, _, .cons a b, i + 1, x, h => b.get (i := i) h
theorem DtAll.getV {S : Addr → Prop} {q : Bool} {H : Hp} : ∀ {n : Nat} {v : List V} {d : List PyData}, DtAll S q H n v d → ∀ {i : Nat} {y : V}, v[i]? = some y → ∃ x, d[i]? = some x ∧ Dt S q H n y x
  | _, _, _, .cons a b, 0, x, h => by cases h; exact ⟨_, rfl, a⟩
  | _, _, _, .cons a b, i + 1, x, h => b.getV (i := i) h
theorem DtAll.append {S : Addr → Prop} {q : Bool} {H : Hp} : ∀ {n : Nat} {v v' : List V} {d d' : List PyData}, DtAll S q H n v d → DtAll S q H n v' d' → DtAll S q H n (v ++ v') (d ++ d')
  | _, _, _, _, _, .nil, h => h
  | _, _, _, _, _, .cons a b, h => .cons a (b.append h)
theorem DtKV.len {S : Addr → Prop} {q : Bool} {H : Hp} : ∀ {n : Nat} {v : List (Key × V)} {d : List (PyData × PyData)}, DtKV S q H n v d → v.length = d.length
  | _, _, _, .nil => rfl
  | _, _, _, .cons _ b => by rw [List.length_cons, List.length_cons, DtKV.len b]
theorem DtKV.keys {S S' : Addr → Prop} {q q' : Bool} {H H' : Hp} : ∀ {n m : Nat} {v v' : List (Key × V)} {d : List (PyData × PyData)}, DtKV S q H n v d → DtKV S' q' H' m v' d → v.map (·.1) = v'.map (·.1)
  | _, _, _, _, _, .nil, h => by cases h; rfl
  | _, _, _, _, _, .cons (k := k) a b, h => by
    generalize hd : keyD k = kd at h
    cases h with
    | @cons _ k' _ _ _ _ a' b' =>
      have e := keyD_inj hd
      rw [List.map_cons, List.map_cons, b.keys b']
      show k :: _ = k' :: _
      rw [e]
theorem DtKV.val {S S' : Addr → Prop} {q q' : Bool} {H H' : Hp} : ∀ {n m : Nat} {v v' : List (Key × V)} {d : List (PyData × PyData)}, DtKV S q H n v d → DtKV S' q' H' m v' d → ∀ (k : Key), k ∈ v.map (·.1) → ∃ x y e, valV v k = some x ∧ valV v' k = some y ∧ Dt S q H n x e ∧ Dt S' q' H' m y e ∧ sizeOf e < sizeOf (PyData.dict d)
  | _, _, _, _, _, .nil, h, k, hk => nomatch hk
  | _, _, _, _, _, .cons (k := k0) (v := v0) (vs := vs) a b, h, k, hk => by
    generalize hd : keyD k0 = kd at h
    cases h with
    | @cons _ k' v1 vs' _ _ a' b' =>
      have e := keyD_inj hd
      subst e
      by_cases z : k0 = k
      · refine ⟨_, _, _, ?_, ?_, a, a', ?_⟩
        · unfold valV; rw [List.find?_cons_of_pos (by simp [z])]; rfl
        · unfold valV; rw [List.find?_cons_of_pos (by simp [z])]; rfl
        · simp; omega
      · have hk' : k ∈ vs.map (·.1) := by
          rcases List.mem_cons.mp hk with h | h
          · exact absurd h.symm z
          · exact h
        obtain ⟨x, y, e, h1, h2, h3, h4, h5⟩ := b.val b' k hk'
        refine ⟨x, y, e, ?_, ?_, h3, h4, ?_⟩
        · unfold valV at h1 ⊢; rw [List.find?_cons_of_neg (by simp [z])]; exact h1
        · unfold valV at h2 ⊢; rw [List.find?_cons_of_neg (by simp [z])]; exact h2
        · simp at h5 ⊢; omega
theorem DtKV.getV {S : Addr → Prop} {q : Bool} {H : Hp} : ∀ {n : Nat} {v : List (Key × V)} {d : List (PyData × PyData)}, DtKV S q H n v d → ∀ {i : Nat} {k : Key} {y : V}, v[i]? = some (k, y) → ∃ x, d[i]? = some (keyD k, x) ∧ Dt S q H n y x ∧ sizeOf x < sizeOf (PyData.dict d)
  | _, _, _, .cons a b, 0, k, y, h => by
    cases h
    exact ⟨_, rfl, a, by simp; omega⟩
  | _, _, _, .cons a b, i + 1, k, y, h => by
    obtain ⟨x, h1, h2, h3⟩ := b.getV (i := i) h
    exact ⟨x, h1, h2, by simp at h3 ⊢; omega⟩
theorem DtKV.append {S : Addr → Prop} {q : Bool} {H : Hp} : ∀ {n : Nat} {v v' : List (Key × V)} {d d' : List (PyData × PyData)}, DtKV S q H n v d → DtKV S q H n v' d' → DtKV S q H n (v ++ v') (d ++ d')
  | _, _, _, _, _, .nil, h => h
  | _, _, _, _, _, .cons a b, h => .cons a (b.append h)
theorem valV_at : ∀ {kvs : List (Key × V)} {i : Nat} {k : Key} {v : V}, (kvs.map (·.1)).Nodup → kvs[i]? = some (k, v) → valV kvs k = some v
  | [], _, _, _, _, h => by cases h
  | p :: r, 0, k, v, _, h => by
    cases h
    unfold valV
    rw [List.find?_cons_of_pos (by simp)]; rfl
  | p :: r, i + 1, k, v, nd, h => by
    have ih := valV_at (kvs := r) (i := i) (List.nodup_cons.mp nd).2 h
    have hm : k ∈ r.map (·.1) := List.mem_map.mpr ⟨(k, v), List.mem_of_getElem? h, rfl⟩
    have hne : p.1 ≠ k := fun z => (List.nodup_cons.mp nd).1 (by rw [← z] at hm; exact hm)
    unfold valV at ih ⊢
    rw [List.find?_cons_of_neg (by simp [hne])]
    exact ih
theorem nodup_at {α : Type} : ∀ {l : List α} (_ : l.Nodup) {i j : Nat} (hi : i < l.length) (hj : j < l.length), l[i] = l[j] → i = j
  | a :: l, nd, 0, 0, _, _, _ => rfl
  | a :: l, nd, 0, j + 1, _, hj, e => absurd (show a ∈ l by rw [show a = l[j]'(by simpa using hj) from e]; exact List.getElem_mem _) (List.nodup_cons.mp nd).1
  | a :: l, nd, i + 1, 0, hi, _, e => absurd (show a ∈ l by rw [← show l[i]'(by simpa using hi) = a from e]; exact List.getElem_mem _) (List.nodup_cons.mp nd).1
  | a :: l, nd, i + 1, j + 1, hi, hj, e => congrArg (· + 1) (nodup_at (List.nodup_cons.mp nd).2 (by simpa using hi) (by simpa using hj) e)
theorem notin_take {α : Type} {l : List α} {i : Nat} {x : α} (nd : l.Nodup) (h : l[i]? = some x) : x ∉ l.take i := fun hm => by
  obtain ⟨j, hj, e⟩ := List.mem_take_iff_getElem.mp hm
  obtain ⟨hi, e2⟩ := List.getElem?_eq_some_iff.mp h
  have := (nodup_at nd (by omega) hi (e.trans e2.symm))
  omega
/-! ### what isinstance tells of data -/
end Fm
namespace Fm
open PySem PySem.Spec PyProof.Rows L2
def tyS : PyData → String
  | .none => "NoneType"
  | .bool _ => "bool"
  | .int _ => "int"
  | .str _ => "str"
  | .list _ => "list"
  | .tuple _ => "tuple"
  | .dict _ => "dict"
theorem Dt.ty {S : Addr → Prop} {K : PySem.W.Frag} {q : Bool} {H : Hp} : ∀ {n : Nat} {v : V} {d : PyData}, Dt S q H n v d → TyX K H v (.type (tyS d))
  | _, _, _, .non => .base .non
  | _, _, _, .bl b => .base (.bl b)
  | _, _, _, .int b => .base (.int b)
  | _, _, _, .str b _ => .base (.str b)
  | _, _, _, .lst r l a => by
    rcases r with r | ⟨o, r⟩
    · exact .base (.lst r)
    · exact .base (.frz r)
  | _, _, _, .tup r l a => .base (.tup r)
  | _, _, _, .dic r l a => by
    have r' := (show Rd H _ _ by
      unfold DkAt at r
      cases q with
      | true => exact .inl r
      | false => exact r)
    rcases r' with r | ⟨o, r⟩
    · exact .base (.dK r)
    · exact .fDict r
def isL : PyData → Bool
  | .list _ => true
  | _ => false
theorem kb_list : ∀ d : PyData, kitB (tyS d) "list" = some (isL d)
  | .none => (by decide +kernel : kitB "NoneType" "list" = some false)
  | .bool _ => (by decide +kernel : kitB "bool" "list" = some false)
  | .int _ => (by decide +kernel : kitB "int" "list" = some false)
  | .str _ => (by decide +kernel : kitB "str" "list" = some false)
  | .list _ => (by decide +kernel : kitB "list" "list" = some true)
  | .tuple _ => (by decide +kernel : kitB "tuple" "list" = some false)
  | .dict _ => (by decide +kernel : kitB "dict" "list" = some false)
def isT : PyData → Bool
  | .tuple _ => true
  | _ => false
theorem kb_tuple : ∀ d : PyData, kitB (tyS d) "tuple" = some (isT d)
  | .none => (by decide +kernel : kitB "NoneType" "tuple" = some false)
  | .bool _ => (by decide +kernel : kitB "bool" "tuple" = some false)
  | .int _ => (by decide +kernel : kitB "int" "tuple" = some false)
  | .str _ => (by decide +kernel : kitB "str" "tuple" = some false)
  | .list _ => (by decide +kernel : kitB "list" "tuple" = some false)
  | .tuple _ => (by decide +kernel : kitB "tuple" "tuple" = some true)
  | .dict _ => (by decide +kernel : kitB "dict" "tuple" = some false)
def isB : PyData → Bool
  | .bool _ => true
  | _ => false
theorem kb_bool : ∀ d : PyData, kitB (tyS d) "bool" = some (isB d)
  | .none => (by decide +kernel : kitB "NoneType" "bool" = some false)
  | .bool _ => (by decide +kernel : kitB "bool" "bool" = some true)
  | .int _ => (by decide +kernel : kitB "int" "bool" = some false)
  | .str _ => (by decide +kernel : kitB "str" "bool" = some false)
  | .list _ => (by decide +kernel : kitB "list" "bool" = some false)
  | .tuple _ => (by decide +kernel : kitB "tuple" "bool" = some false)
  | .dict _ => (by decide +kernel : kitB "dict" "bool" = some false)
def isI : PyData → Bool
  | .bool _ => true
  | .int _ => true
  | _ => false
theorem kb_int : ∀ d : PyData, kitB (tyS d) "int" = some (isI d)
  | .none => (by decide +kernel : kitB "NoneType" "int" = some false)
  | .bool _ => (by decide +kernel : kitB "bool" "int" = some true)
  | .int _ => (by decide +kernel : kitB "int" "int" = some true)
  | .str _ => (by decide +kernel : kitB "str" "int" = some false)
  | .list _ => (by decide +kernel : kitB "list" "int" = some false)
  | .tuple _ => (by decide +kernel : kitB "tuple" "int" = some false)
  | .dict _ => (by decide +kernel : kitB "dict" "int" = some false)
def isS : PyData → Bool
  | .str _ => true
  | _ => false
theorem kb_str : ∀ d : PyData, kitB (tyS d) "str" = some (isS d)
  | .none => (by decide +kernel : kitB "NoneType" "str" = some false)
  | .bool _ => (by decide +kernel : kitB "bool" "str" = some false)
  | .int _ => (by decide +kernel : kitB "int" "str" = some false)
  | .str _ => (by decide +kernel : kitB "str" "str" = some true)
  | .list _ => (by decide +kernel : kitB "list" "str" = some false)
  | .tuple _ => (by decide +kernel : kitB "tuple" "str" = some false)
  | .dict _ => (by decide +kernel : kitB "dict" "str" = some false)
def isRowD : PyData → Bool
  | .list _ => true
  | .tuple _ => true
  | _ => false
theorem kit_row {K : PySem.W.Frag} (d : PyData) : PySem.W.kitAny K (.type (tyS d)) [.type "list", .type "tuple"] = some (isRowD d) := by
  refine kitAny_cons (kit_ty (kb_list d)) (fun e => kitAny_cons (kit_ty (kb_tuple d)) (fun e' => ?_) (fun e' => ?_)) (fun e => ?_)
  · cases d <;> first | rfl | exact Bool.noConfusion e' | exact Bool.noConfusion e
  · cases d <;> first | rfl | exact Bool.noConfusion e' | exact Bool.noConfusion e
  · cases d <;> first | rfl | exact Bool.noConfusion e
/-- a def of which nothing is promised -/
theorem Dfn.none {P : Program} {w : World} {K : PySem.W.Frag} {mg : Str → Option Value} {base : Heap} {x : Str} {st : Stmt} {ps : List Str} {CX : CXT} {k : Nat} (D : Dfn K mg x st ps) : Has P w K mg base CX x ps k (fun _ _ _ _ => False) := by
  obtain ⟨f, fd, F, g, b⟩ := D
  exact ⟨f, fd, ⟨fun _ _ _ _ h => h.elim, fun _ _ _ _ _ _ _ _ _ _ _ _ _ h => h.elim⟩, g, F.kp, b⟩
end Fm
namespace Fm
open PySem PySem.Spec PyProof.Rows L2
theorem rd_some {H : Hp} {a : Addr} {u : HO} (r : Rd H a u) : H a ≠ none := by
  rcases r with r | ⟨o, r⟩ <;> rw [r] <;> exact fun z => nomatch z
mutual
theorem Dt.inH {S : Addr → Prop} {q : Bool} {H : Hp} : ∀ {n : Nat} {v : V} {d : PyData}, Dt S q H n v d → Dt (fun a => S a ∧ H a ≠ none) q H n v d
  | _, _, _, .non => .non
  | _, _, _, .bl b => .bl b
  | _, _, _, .int b => .int b
  | _, _, _, .str b h => .str b h
  | _, _, _, .lst r l a => .lst r ⟨l.1, l.2, rd_some r⟩ (DtAll.inH a)
  | _, _, _, .tup r l a => .tup r ⟨l.1, l.2, rd_some (.inl r)⟩ (DtAll.inH a)
  | _, _, _, .dic r l a => .dic r ⟨l.1, l.2, by
      unfold DkAt at r
      cases q with
      | true => exact rd_some (.inl r)
      | false => exact rd_some r⟩ (DtKV.inH a)
theorem DtAll.inH {S : Addr → Prop} {q : Bool} {H : Hp} : ∀ {n : Nat} {v : List V} {d : List PyData}, DtAll S q H n v d → DtAll (fun a => S a ∧ H a ≠ none) q H n v d
  | _, _, _, .nil => .nil
  | _, _, _, .cons a b => .cons (Dt.inH a) (DtAll.inH b)
theorem DtKV.inH {S : Addr → Prop} {q : Bool} {H : Hp} : ∀ {n : Nat} {v : List (Key × V)} {d : List (PyData × PyData)}, DtKV S q H n v d → DtKV (fun a => S a ∧ H a ≠ none) q H n v d
  | _, _, _, .nil => .nil
  | _, _, _, .cons a b => .cons (Dt.inH a) (DtKV.inH b)
end

end Fm

namespace Fm
open PySem PySem.Spec PyProof.Rows L2
/-! ### names -/
/-- a text of 1 to 8 letters a to z -/
def IsNm (w : Str) : Prop := 1 ≤ w.length ∧ w.length ≤ 8 ∧ ∀ c ∈ w.cps.toList, 97 ≤ c ∧ c ≤ 122
def abc : Str := "abcdefghijklmnopqrstuvwxyz"
theorem abc_at : ∀ n : Nat, n < 26 → abc.cps.toList[n]? = some (97 + n) := by decide +kernel
theorem abc_size : abc.cps.toList.length = 26 := by decide +kernel
theorem abc_len : abc.length = 26 := by decide +kernel
theorem abc_ix {r : Int} (h0 : 0 ≤ r) (h1 : r < 26) : atI abc.cps.toList r = some (97 + r.toNat) := by
  unfold atI ixN
  rw [abc_size, if_pos h0, if_pos (by omega)]
  exact abc_at r.toNat (by omega)
theorem join_ones : ∀ cs : List Nat, Str.join ⟨#[]⟩ (cs.map fun c => (⟨#[c]⟩ : Str)) = ⟨cs.toArray⟩
  | [] => rfl
  | [c] => rfl
  | c :: d :: r => by
    have ih := join_ones (d :: r)
    show (⟨#[c]⟩ : Str) ++ ⟨#[]⟩ ++ Str.join ⟨#[]⟩ ((d :: r).map fun c => (⟨#[c]⟩ : Str)) = _
    rw [ih]
    refine ext_toList ?_
    show ((#[c] ++ #[]) ++ (d :: r).toArray).toList = _
    simp
theorem txt_join_ones (cs : List Nat) : PySem.Txt.join (Str.ofString "") (cs.map fun c => (⟨#[c]⟩ : Str)) = ⟨cs.toArray⟩ := by
  rw [show (Str.ofString "" : Str) = ⟨#[]⟩ by decide +kernel]
  rw [TL.join_eq]
  exact join_ones cs
theorem sum_ones : ∀ cs : List Nat, ((cs.map fun c => (⟨#[c]⟩ : Str)).map (·.length)).sum = cs.length
  | [] => rfl
  | c :: r => by
    have ih := sum_ones r
    show 1 + ((r.map fun c => (⟨#[c]⟩ : Str)).map (·.length)).sum = r.length + 1
    rw [ih]; omega
theorem inV_strs (w : Str) (ws : List Str) : inV (.str w) (ws.map V.str) = decide (w ∈ ws) := by
  unfold inV
  induction ws with
  | nil => rfl
  | cons a r ih =>
    rw [List.map_cons, List.any_cons, ih]
    show ((a == w) || decide (w ∈ r)) = _
    by_cases h : a = w
    · subst h; simp
    · have : ¬ w = a := fun z => h z.symm
      simp [h, this]
theorem flat_strs (ws : List Str) : (ws.map V.str).all flatV = true := by
  rw [List.all_eq_true]
  intro x hx
  obtain ⟨w, _, rfl⟩ := List.mem_map.mp hx
  rfl
theorem pigeon {α : Type} [DecidableEq α] : ∀ (l ws : List α), l.Nodup → (∀ x ∈ l, x ∈ ws) → l.length ≤ ws.length
  | [], _, _, _ => Nat.zero_le _
  | a :: l, ws, nd, h => by
    have ha : a ∈ ws := h a List.mem_cons_self
    have hn : a ∉ l := (List.nodup_cons.mp nd).1
    have ih := pigeon l (ws.erase a) (List.nodup_cons.mp nd).2 fun x hx => by
      have hxa : x ≠ a := fun z => hn (z ▸ hx)
      exact (List.mem_erase_of_ne hxa).mpr (h x (List.mem_cons_of_mem _ hx))
    have := List.length_erase_of_mem ha
    have hp : 0 < ws.length := List.length_pos_of_mem ha
    simp only [List.length_cons]
    omega
/-- the stem and one letter -/
def stemL (s : Str) (n : Nat) : Str := s ++ ⟨#[97 + n]⟩
theorem stemL_inj {s : Str} {m n : Nat} (h : stemL s m = stemL s n) : m = n := by
  have e : (stemL s m).cps.toList = (stemL s n).cps.toList := by rw [h]
  unfold stemL at e
  change (s.cps ++ #[97 + m]).toList = (s.cps ++ #[97 + n]).toList at e
  simp at e
  omega
theorem stems_nodup (s : Str) (n : Nat) : ((List.range n).map (stemL s)).Nodup := by
  rw [List.nodup_iff_pairwise_ne, List.pairwise_map]
  exact (List.nodup_range (n := n)).imp fun h z => h (stemL_inj z)
theorem stem_nm {s : Str} {n : Nat} (h7 : s.length ≤ 7) (hs : ∀ c ∈ s.cps.toList, 97 ≤ c ∧ c ≤ 122) (hn : n < 26) : IsNm (stemL s n) := by
  have hl : (stemL s n).length = s.length + 1 := by
    unfold stemL
    change (s.cps ++ #[97 + n]).size = s.cps.size + 1
    simp
  refine ⟨by omega, by omega, fun c hc => ?_⟩
  unfold stemL at hc
  change c ∈ (s.cps ++ #[97 + n]).toList at hc
  simp at hc
  rcases hc with hc | hc
  · exact hs c (by simpa using hc)
  · omega
theorem cut7 (w : Str) : (cutS w none (some 7)).length ≤ 7 ∧ ∀ c ∈ (cutS w none (some 7)).cps.toList, c ∈ w.cps.toList := by
  have e1 : HT.sIx w.length w.length (some 7) = min 7 w.length := HT.sIx_nat _ _ 7
  unfold cutS
  rw [e1, HT.sIx_none, List.drop_zero, Nat.sub_zero]
  refine ⟨?_, fun c hc => ?_⟩
  · change (List.take (min 7 w.length) w.cps.toList).toArray.size ≤ 7
    simp
    omega
  · exact List.mem_of_mem_take (by simpa using hc)
/-- the ways through the loop: while the words were taken, up to k letters -/
theorem all_taken {s : Str} {ws : List Str} (hw : ws.length ≤ 25) (h : ∀ j, j < 26 → stemL s j ∈ ws) : False := by
  have := pigeon ((List.range 26).map (stemL s)) ws (stems_nodup s 26) fun x hx => by
    obtain ⟨j, hj, rfl⟩ := List.mem_map.mp hx
    exact h j (List.mem_range.mp hj)
  rw [List.length_map, List.length_range] at this
  omega
theorem atI_of {α : Type} {xs : List α} {r : Int} {x : α} (h0 : 0 ≤ r) (h : xs[r.toNat]? = some x) : atI xs r = some x := by
  have hl : r.toNat < xs.length := (List.getElem?_eq_some_iff.mp h).1
  unfold atI ixN
  rw [if_pos h0, if_pos (by omega)]
  exact h
end Fm

namespace Fm
open PySem PySem.Spec PyProof.Rows L2
theorem take_snoc {α : Type} {l : List α} {i : Nat} {x : α} (h : l[i]? = some x) : l.take (i + 1) = l.take i ++ [x] := by
  have hi : i < l.length := (List.getElem?_eq_some_iff.mp h).1
  rw [List.take_succ, h]; rfl
end Fm

namespace PySem
open PySem.Calls PyProof.Rows
/-- enumerate(v) without a start, v told by how its iterator begins -/
theorem fm_enum_new {v : Value} {o : Obj} {Hv : Heap → Prop} (bg : Begins v o Hv) :
    Meets (Builtin.«enumerate.__new__» ⟨[.type "enumerate", v], []⟩) (fun _ R s => Hv s.heap ∧ R (.ok (.ret (.ref (s.heap.push o).objs.size)))
      { s with heap := (s.heap.push o).push { cls := .type "enumerate", data := .fields #[.none, .bool false, .ref s.heap.objs.size, rawInt 0, .none, .none] } }) := by
  refine .of_wp fun prog w A R s hh => ?_
  rcases s with ⟨hp, gs, dr, tk, os⟩
  rcases hh with ⟨hv, hR⟩
  have sE := sub_enumerate
  have stp : ∀ {A1 : Around} {E1 : Value → Shared → Prop} {Q1 : Value → Shared → Prop}, Q1 (.ref hp.objs.size) ⟨hp.push o, gs, dr, tk, os⟩ → wpAny (model prog w) A1 (pyIter v) Q1 E1 ⟨hp, gs, dr, tk, os⟩ := fun q1 => bg.iter prog w _ _ ⟨hp, gs, dr, tk, os⟩ _ hv q1
  wp_walk using stp
  refine wpAny_stack_any fun _ => wpAny_pure ?_
  split
  · rename_i cc _ _ _ _ _
    cases (cc == Value.type "enumerate") <;> (wp_walk using stp; exact ⟨_, rfl, hR⟩)
  · wp_walk using stp
    exact ⟨_, rfl, hR⟩
theorem fm_call_enum {prog : Program} {w : World} {A : Around} {E : Value → Shared → Prop} {s : Shared} {v : Value} {o : Obj} {Hv : Heap → Prop} {Q : Value → Shared → Prop} (bg : Begins v o Hv) (h1 : Hv s.heap)
    (k : ∀ h', IsEnum h' (s.heap.objs.size + 1) s.heap.objs.size 0 .none → h'.get? s.heap.objs.size = some o → (∀ b u, s.heap.get? b = some u → h'.get? b = some u) → Q (.ref (s.heap.objs.size + 1)) { s with heap := h' }) :
    wpAny (model prog w) A (call (.type "enumerate") [v]) Q E s := by
  refine callType_new F.called_enumerate (by decide) (F.typeCall_enumerate_1 _) (F.newCall_enumerate_1 _) (fun obj => F.args_object_init_2 obj _) F.entry_enumerate_new (fm_enum_new bg) ⟨h1, ?_⟩
  have sz : (s.heap.push o).objs.size = s.heap.objs.size + 1 := Heap.size_push ..
  show _ ∧ _
  rw [sz]
  have ie : IsEnum ((s.heap.push o).push { cls := .type "enumerate", data := .fields #[.none, .bool false, .ref s.heap.objs.size, rawInt 0, .none, .none] }) (s.heap.objs.size + 1) s.heap.objs.size 0 .none := by
    have g := Heap.get?_push_size (s.heap.push o) (o := { cls := .type "enumerate", data := .fields #[.none, .bool false, .ref s.heap.objs.size, rawInt 0, .none, .none] }) rfl
    rw [sz] at g
    exact g
  exact ⟨⟨_, ie, rfl⟩, k _ ie (Heap.get?_push_of_some _ (Heap.get?_push_size _ bg.free)) fun b u e => Heap.get?_push_of_some _ (Heap.get?_push_of_some _ e)⟩
end PySem
namespace Fm
open PySem PySem.Spec PyProof.Rows L2
/-- enumerate(t), t a tuple: each item in a new pair -/
def ItE (K : PySem.W.Frag) (a : Addr) : It :=
  ⟨fun i H => ∃ (xs : List V) (x : V), SqT K H a xs ∧ xs[i]? = some x, fun i H v H' => ∃ T x, v = .ref T ∧ H T = none ∧ H' = upd H T (.tup [.int (i : Nat), x]) ∧ ∀ xs, SqT K H a xs → xs[i]? = some x, fun i H => ∃ xs : List V, SqT K H a xs ∧ xs.length = i⟩
theorem turn_enumT {P : Program} {w : World} {K : PySem.W.Frag} {elts : List Expr} {kk : Nat} {tpos : Pos} (a e it : Addr) (nea : a ≠ it) (nee : e ≠ it) (nae : e ≠ a) :
    Turn P w K (.Tuple elts kk tpos) (ItE K a) [e, it] e (fun i h => (∃ old, IsEnum h e it ((i : Nat) : Int) old) ∧ h.IsTupleIter it a i) where
  mem := by simp
  obj := fun i h st b hb => by
    obtain ⟨⟨old, he⟩, ⟨o, ho, hc, hd⟩⟩ := st
    rcases (show b = e ∨ b = it by simpa using hb) with rfl | rfl
    · exact ⟨_, he, fun v q => nomatch q⟩
    · exact ⟨o, ho, fun v q => by rw [hd] at q; cases q⟩
  keep := fun i h h' st k => let ⟨⟨old, he⟩, hi⟩ := st; ⟨⟨old, k e (by simp) _ he⟩, hi.at fun o q => k it (by simp) o q⟩
  item := by
    intro X hP hw hK hc i pins s σ H E I hf st hg
    subst hP hw hK
    obtain ⟨⟨old, he⟩, hit⟩ := st
    obtain ⟨xs, x, hq, hx⟩ := hg
    obtain ⟨its, rv, p, hz⟩ := I.tuple hq
    obtain ⟨u, hu, ru⟩ := rv.get hx
    have hel : e < s.heap.objs.size := Heap.lt_size he
    have hil : it < s.heap.objs.size := by obtain ⟨_, q, _⟩ := hit; exact Heap.lt_size q
    have hlt : i < its.toArray.size := by
      have := (List.getElem?_eq_some_iff.mp hu).1
      simpa using this
    have Dr := Draws.tuple (prog := X.prog) (w := X.w) (A := X.A.in1) (I.ok.hd hc) it a nea its.toArray
    refine wpAny_pyNext_enum_itemC Dr he ⟨hit, p⟩ hlt nee (by simp [nee, nae]) fun y h1 tk hy ho st1 hT hsz hk => ?_
    have ey : y = u := by
      have h2 : its[i]? = some y := by simpa using hy
      rw [hu] at h2
      exact (Option.some.inj h2).symm
    subst ey
    refine ⟨_, rfl, wpAny_letOwnedTupleGo_enum (s := { s with heap := h1, toks := tk + 1 }) ho fun h2 he2 sb => ?_⟩
    have hT2 : h2.get? s.heap.objs.size = some { cls := .type "tuple", data := .seq #[.int i tk, y] } := (sb.2 _ (Nat.ne_of_gt hel)).trans hT
    have nw : ObjOk X.prog X.w (upd H s.heap.objs.size (.tup [.int (i : Nat), x])) h2 s.heap.objs.size (.tup [.int (i : Nat), x]) :=
      ⟨by show 2 ≤ sizeLine; decide, [.int i tk, y], .cons ⟨_, rfl⟩ (.cons ru .nil), ⟨_, hT2, rfl, _, rfl⟩⟩
    have I1 : Inv X pins σ (upd H s.heap.objs.size (.tup [.int (i : Nat), x])) { s with heap := h2, toks := tk + 1 } :=
      I.turnedNew (ch := [e, it]) (fun b ob hb q => (sb.2 b (fun z => hb (by simp [z]))).trans (hk b ob (fun z => hb (by simp [z])) (fun z => hb (by simp [z])) q)) hf (Nat.le_refl _) nw
    refine ⟨.ref s.heap.objs.size, _, I1, rfl, ⟨_, x, rfl, I.hok.fresh (Nat.le_refl _), rfl, fun ys hy => by rw [I.tuple_inj hy hq]; exact hx⟩, ⟨⟨y, ?_⟩, st1.1.at fun o q => (sb.2 it (Ne.symm nee)).trans q⟩, fun b hb => ?_⟩
    · have e1 : ((i + 1 : Nat) : Int) = (i : Int) + 1 := by omega
      rw [e1]
      exact he2
    · have hb' : b < s.heap.objs.size := by
        rcases (show b = e ∨ b = it by simpa using hb) with rfl | rfl
        · exact hel
        · exact hil
      rw [upd_ne (Nat.ne_of_lt hb')]
      exact (hf b hb).1
  done := by
    intro X hP hw hK hc i pins s σ H E I hf st hg
    subst hP hw hK
    obtain ⟨⟨old, he⟩, hit⟩ := st
    obtain ⟨xs, hq, hx⟩ := hg
    obtain ⟨its, rv, p, hz⟩ := I.tuple hq
    obtain ⟨f0, f1, f2, f3, f4, f5⟩ := hf it (by simp)
    have hl := rv.length
    have Dr := Draws.tuple (prog := X.prog) (w := X.w) (A := X.A.in1) (I.ok.hd hc) it a nea its.toArray
    have ei : i = its.toArray.size := by simp; omega
    refine wpAny_pyNext_enum_endD Dr he ⟨by rw [← ei]; exact hit, p⟩ fun h1 eb => ⟨rfl, I.turned (t' := s.toks) (fun b o hb q => eb b o hb q) f0 f1 f3 f4 f5⟩
  self := fun A i s Q E st h => let ⟨⟨_, he⟩, _⟩ := st; wpAny_pyIter_enum he h
def iEnumT (K : PySem.W.Frag) (ta : TA) : TI := fun σ H R => ta σ H fun vs H1 => ∃ a xs, vs = [.ref a] ∧ SqT K H1 a xs ∧ R (ItE K a) H1
theorem pi_enumT {X : Cx} {e : Expr} {ta : TA} {p pos tpos : Pos} {elts : List Expr} {kk : Nat} (hg : Gl X "enumerate") (hm : X.mg "enumerate" = none) (ha : PA X [e] ta) (hs : starEach [e] X.env = [(false, eval e X.env)] := by rfl) :
    PI X (.Tuple elts kk tpos) (.Call (.Name "enumerate" p) [e] [] pos) (iEnumT X.K ta) := by
  refine ⟨fun pins s σ H R I h => ?_⟩
  refine Call_ (ld_blt I hg hm boot_enumerate (PyProof.Rows.callWith_type1 (thn (ha.run pos pins s σ H _ I h) fun us s1 ⟨vs, H1, I1, r1, q1⟩ => ?_) hs rfl))
  obtain ⟨a, xs, ex, hq, q⟩ := q1
  subst ex
  cases r1 with
  | cons r rr =>
    cases rr
    cases r
    obtain ⟨its, rv, p', hz⟩ := I1.tuple hq
    have hal : a < s1.heap.objs.size := by obtain ⟨_, q, _⟩ := p'; exact Heap.lt_size q
    refine fm_call_enum (begins_tuple a its.toArray) p' fun h' he ho hk => wpAny_pyIter_enum he ?_
    have I2 : Inv X pins σ H1 { s1 with heap := h' } := I1.kept (t' := s1.toks) hk
    refine ⟨s1.heap.objs.size + 1, [s1.heap.objs.size + 1, s1.heap.objs.size], _, _, H1, rfl, I2, turn_enumT a (s1.heap.objs.size + 1) s1.heap.objs.size (Nat.ne_of_lt hal) (Nat.succ_ne_self _) (Nat.ne_of_gt (Nat.lt_succ_of_lt hal)), ⟨⟨.none, he⟩, ⟨_, ho, rfl, rfl⟩⟩, fun b hb => ?_, q⟩
    have hle : s1.heap.objs.size ≤ b := by
      rcases (show b = s1.heap.objs.size + 1 ∨ b = s1.heap.objs.size by simpa using hb) with z | z
      · rw [z]; exact Nat.le_add_right _ _
      · rw [z]; exact Nat.le_refl _
    exact I1.fpOk hle (I1.hok.fresh hle)
/-- one of two ways to walk -/
theorem pi_or {X : Cx} {tg iter : Expr} {w1 w2 : TI} (h1 : PI X tg iter w1) (h2 : PI X tg iter w2) : PI X tg iter (fun σ H R => w1 σ H R ∨ w2 σ H R) := by
  refine ⟨fun pins s σ H R I h => ?_⟩
  rcases h with h | h
  · exact h1.run pins s σ H R I h
  · exact h2.run pins s σ H R I h
theorem walk_enumT {K : PySem.W.Frag} {a : Addr} {xs : List V} : Walk (ItE K a) xs.length (fun H => SqT K H a xs) (YPair (fun i => some (.int (i : Nat))) (fun i => xs[i]?)) := by
  refine ⟨fun i _ hi q => ⟨xs, xs[i], q, by simp [hi]⟩, fun _ q => ⟨xs, q, rfl⟩, fun i H v H' _ q y => ?_⟩
  obtain ⟨T, x, h1, h2, h3, h4⟩ := y
  exact ⟨T, .int (i : Nat), x, h1, h2, h3, rfl, h4 xs q⟩
end Fm

namespace Fm
open PySem PySem.Spec PyProof.Rows L2
/-! ### the package's own looks at things: rows, names, tables -/
noncomputable def bP (p : Prop) : Bool := @decide p (Classical.propDecidable p)
theorem bP_t {p : Prop} (h : p) : bP p = true := by unfold bP; exact @decide_eq_true p (Classical.propDecidable p) h
theorem bP_f {p : Prop} (h : ¬ p) : bP p = false := by unfold bP; exact @decide_eq_false p (Classical.propDecidable p) h
def NmD (d : PyData) : Prop := ∃ w, d = .str w ∧ IsNm w
def spIsRow : Sp := fun vs H Q _ => ∃ (S : Addr → Prop) (q : Bool) (n : Nat) (x : V) (d : PyData), vs = [x] ∧ Dt S q H n x d ∧ ∀ H', Kp [] H H' → Q (.bl (isRowD d)) H'
def spIsName : Sp := fun vs H Q _ => ∃ (S : Addr → Prop) (q : Bool) (n : Nat) (x : V) (d : PyData), vs = [x] ∧ Dt S q H n x d ∧ Q (.bl (bP (NmD d))) H
/-- a row of lo to hi unlike names -/
def NmsD (lo hi : Nat) (d : PyData) (ws : List Str) : Prop := (d = .list (ws.map .str) ∨ d = .tuple (ws.map .str)) ∧ (∀ w ∈ ws, IsNm w) ∧ ws.Nodup ∧ lo ≤ ws.length ∧ ws.length ≤ hi
def spAreNames : Sp := fun vs H Q _ => ∃ (S : Addr → Prop) (q : Bool) (n : Nat) (x : V) (d : PyData) (lo hi : Nat), vs = [x, .int lo, .int hi] ∧ Dt S q H n x d ∧ ∀ H', Kp [] H H' → Q (.bl (bP (∃ ws, NmsD lo hi d ws))) H'
def TabD (d : PyData) (t : Str × List Str) : Prop := ∃ e, d = .tuple [.str t.1, e] ∧ IsNm t.1 ∧ NmsD 1 4 e t.2
def spIsTable : Sp := fun vs H Q _ => ∃ (S : Addr → Prop) (q : Bool) (n : Nat) (x : V) (d : PyData), vs = [x] ∧ Dt S q H n x d ∧ ∀ H', Kp [] H H' → Q (.bl (bP (∃ t, TabD d t))) H'
theorem abc_mem {c : Nat} : c ∈ abc.cps.toList ↔ 97 ≤ c ∧ c ≤ 122 := by
  constructor
  · intro h
    obtain ⟨n, hn, e⟩ := List.getElem_of_mem h
    rw [abc_size] at hn
    have := abc_at n hn
    rw [List.getElem?_eq_getElem (by rw [abc_size]; exact hn)] at this
    have := Option.some.inj this
    omega
  · intro h
    have := abc_at (c - 97) (by omega)
    have e : 97 + (c - 97) = c := by omega
    rw [e] at this
    exact List.mem_of_getElem? this
theorem DtAll.take {S : Addr → Prop} {q : Bool} {H : Hp} : ∀ {n : Nat} {v : List V} {d : List PyData}, DtAll S q H n v d → ∀ i : Nat, DtAll S q H n (v.take i) (d.take i)
  | _, _, _, .nil, i => by rw [List.take_nil, List.take_nil]; exact .nil
  | _, _, _, .cons a b, 0 => .nil
  | _, _, _, .cons a b, i + 1 => .cons a (DtAll.take b i)
theorem DtAll.strs {S : Addr → Prop} {q : Bool} {H : Hp} {n : Nat} : ∀ {v : List V} {ws : List Str}, DtAll S q H n v (ws.map .str) → v = ws.map V.str
  | [], [], _ => rfl
  | _ :: _, [], h => by cases h
  | [], _ :: _, h => by cases h
  | x :: v, w :: ws, h => by
    cases h with
    | cons a b =>
      cases a
      rw [DtAll.strs b]; rfl
theorem strs_at {us : List Str} {i : Nat} {w : Str} (h : (us.map PyData.str)[i]? = some (.str w)) : us[i]? = some w := by
  rw [List.getElem?_map] at h
  cases e : us[i]? with
  | none => rw [e] at h; cases h
  | some y => rw [e] at h; cases h; rfl
theorem strs_inj : ∀ {us ws : List Str}, us.map PyData.str = ws.map PyData.str → us = ws
  | [], [], _ => rfl
  | [], _ :: _, h => by cases h
  | _ :: _, [], h => by cases h
  | a :: us, b :: ws, h => by
    rw [List.map_cons, List.map_cons] at h
    injection h with h1 h2
    injection h1 with h1
    rw [h1, strs_inj h2]
theorem strs_take {us ws : List Str} {i : Nat} (h : ws.map PyData.str = (us.map PyData.str).take i) : us.take i = ws := by
  rw [← List.map_take] at h
  exact (strs_inj h).symm
theorem cut_take {xs : List V} {i : Nat} (h : i ≤ xs.length) : cutV xs none (some ((i : Nat) : Int)) = xs.take i := by
  have e1 : HT.sIx xs.length xs.length (some ((i : Nat) : Int)) = min i xs.length := HT.sIx_nat _ _ i
  unfold cutV
  rw [e1, HT.sIx_none, List.drop_zero, Nat.sub_zero, Nat.min_eq_left h]
section
variable {P : Program} {w : World} {K : PySem.W.Frag} {mg : Str → Option Value} {base : Heap}
theorem cut_not {n i : Nat} (h : i < n) : ¬ (HT.sIx n 0 none = 0 ∧ HT.sIx n n (some ((i : Nat) : Int)) = n) := by
  rintro ⟨_, e⟩
  rw [HT.sIx_nat] at e
  omega
theorem ok_is_row (B : Bi mg) (D : Dfn K mg "is_row" s_is_row ["thing"]) : Has P w K mg base CX0 "is_row" ["thing"] 1 spIsRow := by
  refine D.has sc_is_row (fun vs H Q E h => ?_) (fun f cdv A outer s H vs Q E hr h => ?_)
  · obtain ⟨S, q, n, x, d, rfl, _⟩ := h; rfl
  · obtain ⟨S, q, n, x, d, rfl, hx, k⟩ := h
    refine ⟨_, (pss_one (ps_ret (pe_callB call_isiT (by rfl) B.isinstance (by decide +kernel) (pa_cons (pv 0) (pa_cons (pe_tup (pa_cons (pe_bltn (v := .ty "list") (by rfl) B.list (by decide +kernel) rfl) (pa_cons (pe_bltn (v := .ty "tuple") (by rfl) B.tuple (by decide +kernel) rfl) pa_nil))) pa_nil))))), ?_⟩
    exact ⟨_, rfl, (by show 2 ≤ sizeLine; decide), fun T hT => ⟨_, T, _, _, _, _, rfl, upd_same, .cons (.ty _) (.cons (.ty _) .nil), (hx.keep (Kp.new hT)).ty, kit_row _, k _ (Kp.new hT)⟩⟩
theorem ok_is_name {tk : Tok} (B : Bi mg) (L : mg "LETTERS" = some (.str abc tk)) (D : Dfn K mg "is_name" s_is_name ["thing"]) : Has P w K mg base CX0 "is_name" ["thing"] 1 spIsName := by
  refine D.has sc_is_name (fun vs H Q E h => ?_) (fun f cdv A outer s H vs Q E hr h => ?_)
  · obtain ⟨S, q, n, x, d, rfl, _⟩ := h; rfl
  · obtain ⟨S, q, n, x, d, rfl, hx, k⟩ := h
    refine ⟨_, (pss_cons (ps_if (PW.pt (pw_or (pt_not (pt_val (pe_callB call_isi (by rfl) B.isinstance (by decide +kernel) (pa_cons (pv 0) (pa_cons (pe_bltn (v := .ty "str") (by rfl) B.str (by decide +kernel) rfl) pa_nil))))) (pw_or1 (pt_not (pt_chain op_le op_le pe_int (pe_callB call_len (by rfl) B.len PySem.boot_len (pa_cons (pv 0) pa_nil)) pe_int)))))
  (pss_one (ps_ret pe_bl))
  pss_nil)
  (pss_cons (ps_for PassesOwn.never rfl (pi_str (pv 0)) (pg_name (i := 1) sc_is_name.nd rfl (by first | exact Or.inl rfl | exact Or.inr rfl))
  (pss_one (ps_if (pt_cmpR op_notIn_sign (pv 1) (pe_glob (v := .str abc) rfl L ⟨_, rfl⟩) (by rfl))
  (pss_one (ps_ret pe_bl))
  pss_nil)))
  (pss_one (ps_ret pe_bl)))), ?_⟩
    refine ⟨_, rfl, _, _, _, _, _, rfl, .ty _, hx.ty, kit_ty (kb_str _), _, rfl, ?_⟩
    cases hx with
    | str z hz =>
      refine iteF ?_
      refine ⟨_, rfl, _, z.length, rfl, ⟨Nat.le_trans hz (by decide), rfl⟩, _, _, rfl, rfl, _, rfl, ?_⟩
      by_cases h1 : 1 ≤ z.length
      · rw [decide_eq_true (show (1 : Int) ≤ (z.length : Int) by omega)]
        refine iteT ?_
        refine ⟨_, _, rfl, rfl, _, rfl, ?_⟩
        by_cases h8 : z.length ≤ 8
        · rw [decide_eq_true (show (z.length : Int) ≤ 8 by omega)]
          refine iteF ?_
          refine ⟨_, rfl, z, rfl, ?_⟩
          refine for_it walk_str (fun i σ H' => (∃ v : Option V, σ = [some (.str z), v]) ∧ H' = H ∧ ∀ j c, j < i → z.cps[j]? = some c → 97 ≤ c ∧ c ≤ 122) ⟨⟨none, rfl⟩, rfl, fun j c h => absurd h (by omega)⟩ (fun _ _ _ _ _ => trivial) ?_ ?_
          · rintro i v σ H1 H2 hi ⟨⟨v0, rfl⟩, rfl, hj⟩ ⟨rfl, c, hc, rfl⟩
            refine ⟨_, rfl, c, abc, rfl, rfl, _, rfl, ?_⟩
            by_cases hm : c ∈ abc.cps.toList
            · rw [decide_eq_true hm]
              refine iteF ?_
              refine ⟨⟨_, rfl⟩, rfl, fun j c' h e => ?_⟩
              by_cases z' : j = i
              · rw [z', hc] at e
                cases e
                exact abc_mem.mp hm
              · exact hj j c' (by omega) e
            · rw [decide_eq_false hm]
              refine iteT ?_
              rw [bP_f] at k
              · exact k
              · rintro ⟨w', e, n1, n2, n3⟩
                cases e
                exact hm (abc_mem.mpr (n3 c (by
                  have : z.cps.toList[i]? = some c := by simpa using hc
                  exact List.mem_of_getElem? this)))
          · rintro σ H1 ⟨⟨v0, rfl⟩, rfl, hj⟩
            rw [bP_t] at k
            · exact k
            · refine ⟨z, rfl, h1, h8, fun c hc => ?_⟩
              obtain ⟨j, hj', e⟩ := List.getElem_of_mem hc
              have hj2 : j < z.cps.size := by simpa using hj'
              exact hj j c hj2 (by rw [← e]; simp [hj2])
        · rw [decide_eq_false (show ¬ (z.length : Int) ≤ 8 by omega)]
          refine iteT ?_
          rw [bP_f] at k
          · exact k
          · rintro ⟨w', e, n1, n2, n3⟩
            cases e
            exact h8 n2
      · rw [decide_eq_false (show ¬ (1 : Int) ≤ (z.length : Int) by omega)]
        refine iteF ?_
        refine ⟨_, rfl, ?_⟩
        refine iteT ?_
        rw [bP_f] at k
        · exact k
        · rintro ⟨w', e, n1, n2, n3⟩
          cases e
          exact h1 n1
    | _ =>
      refine iteT (iteT ?_)
      rw [bP_f] at k
      · exact k
      · rintro ⟨w', e, _⟩
        cases e
theorem ok_are_names (B : Bi mg) (D : Dfn K mg "are_names" s_are_names ["thing", "least", "most"]) (G_is_row : Has P w K mg base CX0 "is_row" ["thing"] 1 spIsRow) (G_is_name : Has P w K mg base CX0 "is_name" ["thing"] 1 spIsName) :
    Has P w K mg base CX0 "are_names" ["thing", "least", "most"] 2 spAreNames := by
  refine D.has sc_are_names (fun vs H Q E h => ?_) (fun f cdv A outer s H vs Q E hr h => ?_)
  · obtain ⟨S, q, n, x, d, lo, hi, rfl, _⟩ := h; rfl
  · obtain ⟨S, q, n, x, d, lo, hi, rfl, hx, k⟩ := h
    refine ⟨_, (pss_cons (ps_if (PW.pt (pw_or (pt_not (pt_val (pe_has G_is_row hr (pa_cons (pv 0) pa_nil)))) (pw_or1 (pt_not (pt_chain op_le op_le (pv 1) (pe_callB call_len (by rfl) B.len PySem.boot_len (pa_cons (pv 0) pa_nil)) (pv 2))))))
  (pss_one (ps_ret pe_bl))
  pss_nil)
  (pss_cons (ps_for PassesOwn.never rfl (pi_or (pi_enum (by rfl) B.enumerate (pa_cons (pv 0) pa_nil)) (pi_enumT (by rfl) B.enumerate (pa_cons (pv 0) pa_nil))) (pg_tup rfl (pgs_cons (pg_name (i := 3) sc_are_names.nd rfl (by first | exact Or.inl rfl | exact Or.inr rfl)) (pgs_cons (pg_name (i := 4) sc_are_names.nd rfl (by first | exact Or.inl rfl | exact Or.inr rfl)) pgs_nil)))
  (pss_one (ps_if (PW.pt (pw_or (pt_not (pt_val (pe_has G_is_name hr (pa_cons (pv 4) pa_nil)))) (pw_or1 (pt_cmpR op_in_seq (pv 4) (pe_slice (sl_list.or sl_tup) (pv 0) po_none (po_some (pv 3))) (by rfl)))))
  (pss_one (ps_ret pe_bl))
  pss_nil)))
  (pss_one (ps_ret pe_bl)))), ?_⟩
    refine ⟨_, rfl, S, q, n, x, d, rfl, hx, fun H1 k1 => ⟨_, rfl, ?_⟩⟩
    have hx1 := hx.keep k1
    by_cases hd : isRowD d = true
    · rw [hd]
      rcases (show (∃ ds, d = .list ds) ∨ ∃ ds, d = .tuple ds by cases d <;> first | exact .inl ⟨_, rfl⟩ | exact .inr ⟨_, rfl⟩ | cases hd) with ⟨ds, rfl⟩ | ⟨ds, rfl⟩
      · -- a list
        cases hx1 with
        | @lst m p xs _ rx lx ax =>
          have hx1 : Dt S q H1 (m + 1) (.ref p) (.list ds) := .lst rx lx ax
          have el : xs.length = ds.length := ax.len
          refine iteF ?_
          refine ⟨_, rfl, _, rfl, _, _, rfl, .inl ⟨_, .inl rx, rfl⟩, _, _, rfl, rfl, _, rfl, ?_⟩
          have no : ∀ {p : Prop}, (∀ ws, NmsD lo hi (.list ds) ws → ds.length = ws.length) := fun {p} ws h => by
            rcases h.1 with e | e
            all_goals first | (cases e; rw [List.length_map]) | cases e
          by_cases h1 : lo ≤ xs.length
          · rw [decide_eq_true (show (lo : Int) ≤ (xs.length : Int) by omega)]
            refine iteT ?_
            refine ⟨_, rfl, _, _, rfl, rfl, _, rfl, ?_⟩
            by_cases h2 : xs.length ≤ hi
            · rw [decide_eq_true (show (xs.length : Int) ≤ (hi : Int) by omega)]
              refine iteF ?_
              refine .inl ⟨_, rfl, p, xs, rfl, .inl rx, ?_⟩
              refine for_it (walk_enum (xs := xs)) (fun i σ H' => (∃ v w : Option V, σ = [some (.ref p), some (.int lo), some (.int hi), v, w]) ∧ Kp [] H1 H' ∧ ∃ ws : List Str, ds.take i = ws.map .str ∧ (∀ w ∈ ws, IsNm w) ∧ ws.Nodup) ⟨⟨none, none, rfl⟩, Kp.refl _, [], rfl, (fun w h => nomatch h), List.nodup_nil⟩ (fun i σ H' _ ⟨_, k2, _⟩ => .inl (k2.rd (fun z => nomatch z) rx)) ?_ ?_
              · rintro i v σ H2 H3 hi' ⟨⟨v0, w0, rfl⟩, k2, ws, e1, e2, e3⟩ ⟨T, a1, y, rfl, hT, rfl, ea, ey⟩
                cases ea
                obtain ⟨dy, hdy, dt⟩ := ax.getV ey
                have k3 : Kp [] H1 (upd H2 T (.tup [.int (i : Nat), y])) := k2.snoc hT
                refine ⟨T, _, rfl, SqT.of upd_same, rfl, _, _, rfl, _, _, rfl, rfl, ?_⟩
                refine ⟨_, rfl, S, q, m, y, dy, rfl, dt.keep k3, _, rfl, ?_⟩
                by_cases hn : NmD dy
                · rw [bP_t hn]
                  refine iteF ?_
                  obtain ⟨w1, rfl, nw⟩ := hn
                  cases dt with
                  | str _ hz =>
                    have et : xs.take i = ws.map V.str := DtAll.strs (by rw [← e1]; exact ax.take i)
                    refine ⟨_, rfl, _, rfl, _, rfl, _, rfl, .inl ⟨p, xs, rfl, .inl (k3.rd (fun z => nomatch z) rx), fun P' hP => ⟨P', _, rfl, .inl (SqL.of upd_same), rfl, by rw [cut_take (by omega), et]; exact flat_strs ws, ?_⟩⟩⟩
                    rw [cut_take (by omega)]
                    rw [et, inV_strs]
                    refine ⟨_, rfl, ?_⟩
                    by_cases hm : w1 ∈ ws
                    · rw [decide_eq_true hm]
                      refine iteT ?_
                      rw [bP_f] at k
                      · exact k _ (k1.trans (k3.snoc hP))
                      · rintro ⟨us, hu⟩
                        have eu : ds = us.map .str := by
                          rcases hu.1 with e | e
                          all_goals first | (cases e; rfl) | cases e
                        have h3 : us[i]? = some w1 := strs_at (eu ▸ hdy)
                        have h4 : us.take i = ws := strs_take (by rw [← e1, eu])
                        exact notin_take hu.2.2.1 h3 (by rw [h4]; exact hm)
                    · rw [decide_eq_false hm]
                      refine iteF ?_
                      refine ⟨⟨_, _, rfl⟩, k3.snoc hP, ws ++ [w1], ?_, ?_, ?_⟩
                      · rw [take_snoc hdy, e1, List.map_append]; rfl
                      · intro w' h
                        rcases List.mem_append.mp h with h | h
                        · exact e2 w' h
                        · rw [List.mem_singleton.mp h]; exact nw
                      · exact nd_snoc e3 hm
                · rw [bP_f hn]
                  refine iteT (iteT ?_)
                  rw [bP_f] at k
                  · exact k _ (k1.trans k3)
                  · rintro ⟨us, hu⟩
                    have eu : ds = us.map .str := by
                      rcases hu.1 with e | e
                      all_goals first | (cases e; rfl) | cases e
                    subst eu
                    rw [List.getElem?_map] at hdy
                    cases e : us[i]? with
                    | none => rw [e] at hdy; cases hdy
                    | some w' =>
                      rw [e] at hdy
                      cases hdy
                      exact hn ⟨w', rfl, hu.2.1 w' (List.mem_of_getElem? e)⟩
              · rintro σ H2 ⟨⟨v0, w0, rfl⟩, k2, ws, e1, e2, e3⟩
                rw [el, List.take_length] at e1
                rw [bP_t] at k
                · exact k _ (k1.trans k2)
                · refine ⟨ws, .inl (by rw [e1]), e2, e3, ?_, ?_⟩
                  · have := congrArg List.length e1
                    rw [List.length_map] at this; omega
                  · have := congrArg List.length e1
                    rw [List.length_map] at this; omega
            · rw [decide_eq_false (show ¬ (xs.length : Int) ≤ (hi : Int) by omega)]
              refine iteT ?_
              rw [bP_f] at k
              · exact k _ k1
              · rintro ⟨ws, h⟩
                have := no (p := True) ws h
                have := h.2.2.2.2
                omega
          · rw [decide_eq_false (show ¬ (lo : Int) ≤ (xs.length : Int) by omega)]
            refine iteF ?_
            refine ⟨_, rfl, ?_⟩
            refine iteT ?_
            rw [bP_f] at k
            · exact k _ k1
            · rintro ⟨ws, h⟩
              have := no (p := True) ws h
              have := h.2.2.2.1
              omega
      · -- a tuple
        cases hx1 with
        | @tup m p xs _ rx lx ax =>
          have hx1 : Dt S q H1 (m + 1) (.ref p) (.tuple ds) := .tup rx lx ax
          have el : xs.length = ds.length := ax.len
          refine iteF ?_
          refine ⟨_, rfl, _, rfl, _, _, rfl, .inr ⟨_, .inl (.inl rx), rfl⟩, _, _, rfl, rfl, _, rfl, ?_⟩
          have no : ∀ {p : Prop}, (∀ ws, NmsD lo hi (.tuple ds) ws → ds.length = ws.length) := fun {p} ws h => by
            rcases h.1 with e | e
            all_goals first | (cases e; rw [List.length_map]) | cases e
          by_cases h1 : lo ≤ xs.length
          · rw [decide_eq_true (show (lo : Int) ≤ (xs.length : Int) by omega)]
            refine iteT ?_
            refine ⟨_, rfl, _, _, rfl, rfl, _, rfl, ?_⟩
            by_cases h2 : xs.length ≤ hi
            · rw [decide_eq_true (show (xs.length : Int) ≤ (hi : Int) by omega)]
              refine iteF ?_
              refine .inr ⟨_, rfl, p, xs, rfl, .inl (.inl rx), ?_⟩
              refine for_it (walk_enumT (xs := xs)) (fun i σ H' => (∃ v w : Option V, σ = [some (.ref p), some (.int lo), some (.int hi), v, w]) ∧ Kp [] H1 H' ∧ ∃ ws : List Str, ds.take i = ws.map .str ∧ (∀ w ∈ ws, IsNm w) ∧ ws.Nodup) ⟨⟨none, none, rfl⟩, Kp.refl _, [], rfl, (fun w h => nomatch h), List.nodup_nil⟩ (fun i σ H' _ ⟨_, k2, _⟩ => .inl (.inl (k2.tp _ _ rx))) ?_ ?_
              · rintro i v σ H2 H3 hi' ⟨⟨v0, w0, rfl⟩, k2, ws, e1, e2, e3⟩ ⟨T, a1, y, rfl, hT, rfl, ea, ey⟩
                cases ea
                obtain ⟨dy, hdy, dt⟩ := ax.getV ey
                have k3 : Kp [] H1 (upd H2 T (.tup [.int (i : Nat), y])) := k2.snoc hT
                refine ⟨T, _, rfl, SqT.of upd_same, rfl, _, _, rfl, _, _, rfl, rfl, ?_⟩
                refine ⟨_, rfl, S, q, m, y, dy, rfl, dt.keep k3, _, rfl, ?_⟩
                by_cases hn : NmD dy
                · rw [bP_t hn]
                  refine iteF ?_
                  obtain ⟨w1, rfl, nw⟩ := hn
                  cases dt with
                  | str _ hz =>
                    have et : xs.take i = ws.map V.str := DtAll.strs (by rw [← e1]; exact ax.take i)
                    refine ⟨_, rfl, _, rfl, _, rfl, _, rfl, .inr ⟨p, xs, rfl, .inl (.inl (k3.tp _ _ rx)), cut_not (by omega), fun P' hP => ⟨P', _, rfl, .inr (SqT.of upd_same), rfl, by rw [cut_take (by omega), et]; exact flat_strs ws, ?_⟩⟩⟩
                    rw [cut_take (by omega)]
                    rw [et, inV_strs]
                    refine ⟨_, rfl, ?_⟩
                    by_cases hm : w1 ∈ ws
                    · rw [decide_eq_true hm]
                      refine iteT ?_
                      rw [bP_f] at k
                      · exact k _ (k1.trans (k3.snoc hP))
                      · rintro ⟨us, hu⟩
                        have eu : ds = us.map .str := by
                          rcases hu.1 with e | e
                          all_goals first | (cases e; rfl) | cases e
                        have h3 : us[i]? = some w1 := strs_at (eu ▸ hdy)
                        have h4 : us.take i = ws := strs_take (by rw [← e1, eu])
                        exact notin_take hu.2.2.1 h3 (by rw [h4]; exact hm)
                    · rw [decide_eq_false hm]
                      refine iteF ?_
                      refine ⟨⟨_, _, rfl⟩, k3.snoc hP, ws ++ [w1], ?_, ?_, ?_⟩
                      · rw [take_snoc hdy, e1, List.map_append]; rfl
                      · intro w' h
                        rcases List.mem_append.mp h with h | h
                        · exact e2 w' h
                        · rw [List.mem_singleton.mp h]; exact nw
                      · exact nd_snoc e3 hm
                · rw [bP_f hn]
                  refine iteT (iteT ?_)
                  rw [bP_f] at k
                  · exact k _ (k1.trans k3)
                  · rintro ⟨us, hu⟩
                    have eu : ds = us.map .str := by
                      rcases hu.1 with e | e
                      all_goals first | (cases e; rfl) | cases e
                    subst eu
                    rw [List.getElem?_map] at hdy
                    cases e : us[i]? with
                    | none => rw [e] at hdy; cases hdy
                    | some w' =>
                      rw [e] at hdy
                      cases hdy
                      exact hn ⟨w', rfl, hu.2.1 w' (List.mem_of_getElem? e)⟩
              · rintro σ H2 ⟨⟨v0, w0, rfl⟩, k2, ws, e1, e2, e3⟩
                rw [el, List.take_length] at e1
                rw [bP_t] at k
                · exact k _ (k1.trans k2)
                · refine ⟨ws, .inr (by rw [e1]), e2, e3, ?_, ?_⟩
                  · have := congrArg List.length e1
                    rw [List.length_map] at this; omega
                  · have := congrArg List.length e1
                    rw [List.length_map] at this; omega
            · rw [decide_eq_false (show ¬ (xs.length : Int) ≤ (hi : Int) by omega)]
              refine iteT ?_
              rw [bP_f] at k
              · exact k _ k1
              · rintro ⟨ws, h⟩
                have := no (p := True) ws h
                have := h.2.2.2.2
                omega
          · rw [decide_eq_false (show ¬ (lo : Int) ≤ (xs.length : Int) by omega)]
            refine iteF ?_
            refine ⟨_, rfl, ?_⟩
            refine iteT ?_
            rw [bP_f] at k
            · exact k _ k1
            · rintro ⟨ws, h⟩
              have := no (p := True) ws h
              have := h.2.2.2.1
              omega
    · rw [Bool.eq_false_iff.mpr hd]
      refine iteT (iteT ?_)
      rw [bP_f] at k
      · exact k _ k1
      · rintro ⟨ws, h⟩
        rcases h.1 with e | e
        all_goals (rw [e] at hd; exact hd rfl)
theorem ok_is_table (B : Bi mg) (D : Dfn K mg "is_table" s_is_table ["thing"]) (G_is_name : Has P w K mg base CX0 "is_name" ["thing"] 1 spIsName) (G_are_names : Has P w K mg base CX0 "are_names" ["thing", "least", "most"] 2 spAreNames) :
    Has P w K mg base CX0 "is_table" ["thing"] 3 spIsTable := by
  refine D.has sc_is_table (fun vs H Q E h => ?_) (fun f cdv A outer s H vs Q E hr h => ?_)
  · obtain ⟨S, q, n, x, d, rfl, _⟩ := h; rfl
  · obtain ⟨S, q, n, x, d, rfl, hx, k⟩ := h
    have hr1 : Room 1 _ := hr.mono (by decide)
    refine ⟨_, (pss_one (ps_ret (pe_and (pe_callB call_isi (by rfl) B.isinstance (by decide +kernel) (pa_cons (pv 0) (pa_cons (pe_bltn (v := .ty "tuple") (by rfl) B.tuple (by decide +kernel) rfl) pa_nil))) (pe_and (pe_cmpR op_eq (pe_callB call_len (by rfl) B.len PySem.boot_len (pa_cons (pv 0) pa_nil)) pe_int (nomark _)) (pe_and (pe_has G_is_name hr1 (pa_cons (pe_ix ix_tup (pv 0) pe_int (fun _ _ => rfl)) pa_nil)) (pe_one (pe_has G_are_names hr (pa_cons (pe_ix ix_tup (pv 0) pe_int (fun _ _ => rfl)) (pa_cons pe_int (pa_cons pe_int pa_nil)))))))))), ?_⟩
    refine ⟨_, rfl, _, _, _, _, _, rfl, .ty _, hx.ty, kit_ty (kb_tuple _), _, rfl, ?_⟩
    cases hx with
    | @tup m p xs ds rx lx ax =>
      refine iteT ?_
      refine ⟨_, rfl, _, _, rfl, .inr ⟨_, .inl (.inl rx), rfl⟩, rfl, _, rfl, ?_⟩
      by_cases h2 : xs.length = 2
      · rw [decide_eq_true (show V.int (xs.length : Int) = V.int 2 by rw [h2]; rfl)]
        refine iteT ?_
        obtain ⟨x0, x1, rfl⟩ : ∃ x0 x1, xs = [x0, x1] := by
          match xs, h2 with
          | [a, b], _ => exact ⟨a, b, rfl⟩
        cases ax with
        | @cons _ _ _ d0 _ a0 ax =>
          cases ax with
          | @cons _ _ _ d1 _ a1 ax =>
            cases ax
            refine ⟨_, rfl, p, _, _, x0, rfl, rfl, .inl (.inl rx), rfl, S, q, m, x0, d0, rfl, a0, _, rfl, ?_⟩
            by_cases h0 : NmD d0
            · rw [bP_t h0]
              refine iteT ?_
              refine ⟨_, rfl, p, _, _, x1, rfl, rfl, .inl (.inl rx), rfl, S, q, m, x1, d1, 1, 4, rfl, a1, fun H1 k1 => ?_⟩
              obtain ⟨w0, rfl, nw⟩ := h0
              by_cases hw : ∃ ws, NmsD 1 4 d1 ws
              · rw [bP_t hw]
                obtain ⟨ws, hw⟩ := hw
                rw [bP_t ⟨(w0, ws), d1, rfl, nw, hw⟩] at k
                exact k H1 k1
              · rw [bP_f hw]
                rw [bP_f] at k
                · exact k H1 k1
                · rintro ⟨t, e, h, _, h'⟩
                  cases h
                  exact hw ⟨_, h'⟩
            · rw [bP_f h0]
              refine iteF ?_
              rw [bP_f] at k
              · exact k H (Kp.refl H)
              · rintro ⟨t, e, h, h', _⟩
                cases h
                exact h0 ⟨_, rfl, h'⟩
      · rw [decide_eq_false (fun z => h2 (by injection z with z; omega))]
        refine iteF ?_
        rw [bP_f] at k
        · exact k H (Kp.refl H)
        · rintro ⟨t, e, h, _⟩
          cases h
          exact h2 ax.len
    | _ =>
      refine iteF ?_
      rw [bP_f] at k
      · exact k H (Kp.refl H)
      · rintro ⟨t, e, h, _⟩
        cases h
end
end Fm

namespace Fm
open PySem PySem.Spec PyProof.Rows L2
/-! ### an own error with one attribute -/
/-- what __init__(self, f) promises: self.f = f -/
def spErr (C : Addr) (f : Str) : Sp := fun vs H Q _ => ∃ (a : Addr) (y : V), vs = [.ref a, y] ∧ H a = some (exo a C none) ∧
  ∀ dx, H dx = none → dx ≠ a → Q .non (upd (upd H dx (exd dx [(f, y)])) a (exo a C (some dx)))
structure Err (P : Program) (w : World) (K : PySem.W.Frag) (mg : Str → Option Value) (base : Heap) (x : Str) (f : Str) (C : Addr) : Prop where
  oex : OexC K C
  gl : mg x = some (.ref C)
  ini : ∃ fI fd, PySem.W.findIn K (.ref C) "__init__" = some (some (.ref fI)) ∧ PySem.W.typeIn K (.ref fI) = some (.type "function") ∧ FnOk P w K mg base CX0 1 fI fd ["self", f] (spErr C f) ∧ Binds K fd ["self", f] []
  no : PySem.W.findIn K (.ref C) f = some none
  xf : XfC K C
theorem heap_err {H : Hp} {a d : Addr} {o1 o2 o3 o4 : HO} (ha : H a = none) (hd : d ≠ a) : upd (del (upd (upd (upd H a o1) d o2) a o3) a) d o4 = upd H d o4 := by
  funext b
  by_cases z : b = d
  · rw [z, upd_same, upd_same]
  · rw [upd_ne z, upd_ne z]
    by_cases y : b = a
    · rw [y, del_same, ha]
    · rw [del_ne y, upd_ne y, upd_ne z, upd_ne y]
/-- the end of C(v): the wish, told of the error's own new dict -/
theorem err_in {C : Addr} {f : Str} {v : V} {H1 : Hp} {a : Addr} {Q : XK} {E : XK} (ha : H1 a = none) (q : ∀ d, H1 d = none → Q (.ref C) (some d) (upd H1 d (.xd [(f, v)]))) :
    spErr C f [.ref a, v] (upd H1 a (exo a C none)) (fun u H2 => u = .non ∧ ∃ (d : Addr) (fs : List (Str × V)), H2 a = some (exo a C (some d)) ∧ H2 d = some (exd d fs) ∧ H1 d = none ∧ Q (.ref C) (some d) (upd (del H2 a) d (.xd fs))) E := by
  refine ⟨a, v, rfl, upd_same, fun dx hdx hne => ⟨rfl, dx, [(f, v)], upd_same, by rw [upd_ne hne, upd_same], ?_, ?_⟩⟩
  · rw [upd_ne hne] at hdx; exact hdx
  · rw [heap_err ha hne]
    rw [upd_ne hne] at hdx
    exact q dx hdx
section
variable {X : Cx}
/-- raise C(e) -/
theorem ps_raiseE {x f : Str} {C : Addr} {a : Expr} {ta : TA} {W : WX} {p pos pos2 : Pos} {k : Nat} (hc : X.calm = true) (T : Err X.prog X.w X.K X.mg X.base x f C) (hr : Room k X.A) (hk : 2 ≤ k) (tk : Takes X W) (ha : PA X [a] ta) (hg : Gl X x := by rfl)
    (hdb : (x == ("__debug__" : Str)) = false := by decide) (he : starEach (a :: []) X.env = (false, eval a X.env) :: starEach [] X.env := by rfl) (hpl : (backTo pos (starEach [] X.env)).any (·.1) = false := by rfl) :
    PS X (.Raise (some (.Call (.Name x p) [a] [] pos)) none pos2) (fun _ σ H => tMkO C (spErr C f) [] ta σ H fun cls d H' => W cls d σ H') := by
  obtain ⟨fI, fd, h1, h2, F, b⟩ := T.ini
  exact ps_raise hc tk (pmk_oex (k := 1) T.oex h1 h2 F (hr.mono hk) b .nil (fun _ _ _ _ _ _ _ z => z.elim) hg T.gl ha hdb he hpl)
end
section
variable {P : Program} {w : World} {K : PySem.W.Frag} {mg : Str → Option Value} {base : Heap}
end
end Fm

namespace Fm
open PySem PySem.Spec PyProof.Rows L2
/-! ### data of tuples alone: nothing changes it -/
abbrev TupH (H : Hp) : Addr → Prop := fun a => ∃ xs, H a = some (.tup xs)
abbrev Im (H : Hp) (n : Nat) (v : V) (d : PyData) : Prop := Dt (TupH H) true H n v d
abbrev ImAll (H : Hp) (n : Nat) (v : List V) (d : List PyData) : Prop := DtAll (TupH H) true H n v d
theorem tupH_keep {ms : List Addr} {H H' : Hp} (k : Kp ms H H') (a : Addr) (o : HO) (s : TupH H a) (e : H a = some o) : H' a = some o := by
  obtain ⟨xs, h⟩ := s
  rw [h] at e
  cases e
  exact k.tp a xs h
theorem Im.kp {ms : List Addr} {H H' : Hp} (k : Kp ms H H') {n : Nat} {v : V} {d : PyData} (h : Im H n v d) : Im H' n v d := Dt.keepS (fun a o s e => tupH_keep k a o s e) (fun a ⟨xs, h⟩ => ⟨xs, k.tp a xs h⟩) h
theorem ImAll.kp {ms : List Addr} {H H' : Hp} (k : Kp ms H H') {n : Nat} {v : List V} {d : List PyData} (h : ImAll H n v d) : ImAll H' n v d := DtAll.keepS (fun a o s e => tupH_keep k a o s e) (fun a ⟨xs, h⟩ => ⟨xs, k.tp a xs h⟩) h
/-! ### tables -/
def dTab (t : Str × List Str) : PyData := .tuple [.str t.1, .tuple (t.2.map .str)]
def dTabs (tbs : List (Str × List Str)) : PyData := .tuple (tbs.map dTab)
inductive TabsD : List PyData → List (Str × List Str) → Prop
  | nil : TabsD [] []
  | cons {d : PyData} {ds : List PyData} {t : Str × List Str} {ts : List (Str × List Str)} : TabD d t → TabsD ds ts → TabsD (d :: ds) (t :: ts)
theorem TabsD.len : ∀ {ds : List PyData} {ts : List (Str × List Str)}, TabsD ds ts → ds.length = ts.length
  | _, _, .nil => rfl
  | _, _, .cons _ h => congrArg (· + 1) h.len
theorem TabsD.snoc : ∀ {ds : List PyData} {ts : List (Str × List Str)} {d : PyData} {t : Str × List Str}, TabsD ds ts → TabD d t → TabsD (ds ++ [d]) (ts ++ [t])
  | _, _, _, _, .nil, h => .cons h .nil
  | _, _, _, _, .cons a b, h => .cons a (b.snoc h)
theorem TabsD.take : ∀ {ds : List PyData} {ts : List (Str × List Str)}, TabsD ds ts → ∀ i : Nat, TabsD (ds.take i) (ts.take i)
  | _, _, .nil, i => by rw [List.take_nil, List.take_nil]; exact .nil
  | _, _, .cons a b, 0 => .nil
  | _, _, .cons a b, i + 1 => .cons a (b.take i)
theorem TabsD.get : ∀ {ds : List PyData} {ts : List (Str × List Str)}, TabsD ds ts → ∀ {i : Nat} {d : PyData}, ds[i]? = some d → ∃ t, ts[i]? = some t ∧ TabD d t
  | _, _, .cons a b, 0, d, h => by cases h; exact ⟨_, rfl, a⟩
  | _, _, .cons a b, i + 1, d, h => b.get (i := i) h
theorem nms_inj {lo hi : Nat} {d : PyData} {ws ws' : List Str} (h : NmsD lo hi d ws) (h' : NmsD lo hi d ws') : ws = ws' := by
  rcases h.1 with e | e <;> rcases h'.1 with e' | e' <;> rw [e] at e'
  · exact strs_inj (PyData.list.inj e')
  · cases e'
  · cases e'
  · exact strs_inj (PyData.tuple.inj e')
theorem TabD.inj {d : PyData} {t t' : Str × List Str} (h : TabD d t) (h' : TabD d t') : t = t' := by
  obtain ⟨e, rfl, _, n⟩ := h
  obtain ⟨e', q, _, n'⟩ := h'
  injection q with q
  injection q with q1 q2
  injection q2 with q2 q3
  injection q1 with q1
  subst q2
  exact Prod.ext q1 (nms_inj n n')
theorem TabsD.inj : ∀ {ds : List PyData} {ts ts' : List (Str × List Str)}, TabsD ds ts → TabsD ds ts' → ts = ts'
  | _, _, _, .nil, .nil => rfl
  | _, _, _, .cons a b, .cons a' b' => by rw [a.inj a', b.inj b']
/-- the things of a row -/
def RowD (d : PyData) (ds : List PyData) : Prop := d = .list ds ∨ d = .tuple ds
def ShpD (d : PyData) (tbs : List (Str × List Str)) : Prop := ∃ ds, RowD d ds ∧ 1 ≤ ds.length ∧ ds.length ≤ 5 ∧ TabsD ds tbs ∧ (tbs.map (·.1)).Nodup
/-- the first thing that is wrong -/
def ShpBad (d : PyData) (i : Int) : Prop := (i = -1 ∧ ¬ ∃ ds, RowD d ds ∧ 1 ≤ ds.length ∧ ds.length ≤ 5) ∨
  ∃ ds k e tbs, RowD d ds ∧ 1 ≤ ds.length ∧ ds.length ≤ 5 ∧ i = ((k : Nat) : Int) ∧ ds[k]? = some e ∧ TabsD (ds.take k) tbs ∧ (tbs.map (·.1)).Nodup ∧ ¬ ∃ t, TabD e t ∧ t.1 ∉ tbs.map (·.1)
def ShapeAt (C : Addr) (H : Hp) (p : Addr) (tbs : List (Str × List Str)) : Prop := ∃ dx v, H p = some (.ins C dx [("tables", v)]) ∧ Im H 3 v (dTabs tbs)
theorem ShapeAt.kp {C : Addr} {H H' : Hp} {p : Addr} {tbs : List (Str × List Str)} {ms : List Addr} (h : ShapeAt C H p tbs) (k : Kp ms H H') (hp : p ∉ ms) : ShapeAt C H' p tbs := by
  obtain ⟨dx, v, h1, h2⟩ := h
  exact ⟨dx, v, k.at_ _ _ h1 hp, Im.kp k h2⟩
def spShapeI (C CE : Addr) : Sp := fun vs H Q E => ∃ (p dx : Addr) (S : Addr → Prop) (q : Bool) (n : Nat) (x : V) (d : PyData), vs = [.ref p, x] ∧ H p = some (.ins C dx []) ∧ Dt S q H n x d ∧
  (∀ tbs H', ShpD d tbs → Kp [p] H H' → ShapeAt C H' p tbs → Q .non H') ∧
  (∀ (i : Int) (dd : Addr) (H' : Hp), ShpBad d i → Kp [] H H' → H dd = none → H' dd = some (.xd [("at", .int i)]) → E (.ref CE) (some dd) H')
/-- what the top has of the class Shape -/
structure ShCls (K : PySem.W.Frag) (mg : Str → Option Value) (C : Addr) : Prop where
  cl : Cls K C
  nT : NoAttr K C "tables"
  mgC : mg "Shape" = some (.ref C)
theorem dtAll_strs {S : Addr → Prop} {q : Bool} {H : Hp} {n : Nat} : ∀ {ws : List Str}, (∀ w ∈ ws, w.length ≤ 1000000) → DtAll S q H n (ws.map V.str) (ws.map PyData.str)
  | [], _ => .nil
  | w :: ws, h => .cons (.str w (h w List.mem_cons_self)) (dtAll_strs fun x hx => h x (List.mem_cons_of_mem _ hx))
theorem Same.dt {S : Addr → Prop} {q : Bool} {H H' : Hp} {n : Nat} {v : V} {d : PyData} (h : Dt S q H n v d) (k : Same H H') (kt : ∀ a xs, H a = some (.tup xs) → H' a = some (.tup xs)) : Dt S q H' n v d := h.keep ⟨fun a o e _ => k a o e, kt⟩
section
variable {P : Program} {w : World} {K : PySem.W.Frag} {mg : Str → Option Value} {base : Heap}
theorem ok_shape_init {f C CE : Addr} {fd : FuncData} (B : Bi mg) (F : Fun K "__init__" "Shape.__init__" s_Shape_init f fd) (T : ShCls K mg C) (ER : ∀ base, Err P w K mg base "BadShape" "at" CE)
    (G_is_row : ∀ base, Has P w K mg base CX0 "is_row" ["thing"] 1 spIsRow) (G_is_table : ∀ base, Has P w K mg base CX0 "is_table" ["thing"] 3 spIsTable) :
    FnOk P w K mg base (L2.CX P w) 4 f fd ["self", "tables"] (spShapeI C CE) := by
  refine F.okX sc_Shape_init (fun vs H Q E h => ?_) (fun cdv A outer s H vs Q E hr h => ?_)
  · obtain ⟨p, dx, S, q, n, x, d, rfl, _⟩ := h; rfl
  · obtain ⟨p, dx, S, q, n, x, d, rfl, hp, hx, kQ, kE⟩ := h
    have hr1 : Room 1 _ := hr.mono (by decide)
    have hr3 : Room 3 _ := hr
    have G_is_row := G_is_row base
    have G_is_table := G_is_table base
    have ER := ER base
    refine ⟨_, (C8.pss_cut (ps_if (PW.pt (pw_or (pt_not (pt_val (pe_has G_is_row hr1 (pa_cons (pv 1) pa_nil)))) (pw_or1 (pt_not (pt_chain op_le op_le pe_int (pe_callB call_len (by rfl) B.len PySem.boot_len (pa_cons (pv 1) pa_nil)) pe_int)))))
  (pss_one (ps_raiseE rfl ER hr (by decide) (takes_of rfl rfl rfl rfl) (pa_cons (pe_un un_neg pe_int) pa_nil)))
  pss_nil)
  (pss_cons (ps_set (i := 2) sc_Shape_init.nd rfl (by first | exact Or.inl rfl | exact Or.inr rfl) (pe_lst pa_nil))
  (pss_cons (ps_set (i := 3) sc_Shape_init.nd rfl (by first | exact Or.inl rfl | exact Or.inr rfl) (pe_lst pa_nil))
  (pss_cons (ps_for (passes_of rfl) rfl (pi_or (pi_enum (by rfl) B.enumerate (pa_cons (pv 1) pa_nil)) (pi_enumT (by rfl) B.enumerate (pa_cons (pv 1) pa_nil))) (pg_tup rfl (pgs_cons (pg_name (i := 4) sc_Shape_init.nd rfl (by first | exact Or.inl rfl | exact Or.inr rfl)) (pgs_cons (pg_name (i := 5) sc_Shape_init.nd rfl (by first | exact Or.inl rfl | exact Or.inr rfl)) pgs_nil)))
  (pss_cons (ps_if (PW.pt (pw_or (pt_not (pt_val (pe_has G_is_table hr3 (pa_cons (pv 5) pa_nil)))) (pw_or1 (pt_cmpR op_in_seq (pe_ix ix_tup (pv 5) pe_int (fun _ _ => rfl)) (pv 2) (by rfl)))))
  (pss_one (ps_raiseE rfl ER hr (by decide) (takes_of rfl rfl rfl rfl) (pa_cons (pv 4) pa_nil)))
  pss_nil)
  (pss_cons (ps_expr (pe_bm PySem.F.plainAttrs_list PySem.F.slot_list_append PySem.F.type_list_append mt_append (pv 2) (pa_cons (pe_ix ix_tup (pv 5) pe_int (fun _ _ => rfl)) pa_nil)))
  (pss_one (ps_expr (pe_bm PySem.F.plainAttrs_list PySem.F.slot_list_append PySem.F.type_list_append mt_append (pv 3) (pa_cons (pe_tup (pa_cons (pe_ix ix_tup (pv 5) pe_int (fun _ _ => rfl)) (pa_cons (pe_callTy call_tuple_of (by rfl) B.tuple (by decide +kernel) (pa_cons (pe_ix ix_tup (pv 5) pe_int (fun _ _ => rfl)) pa_nil)) pa_nil))) pa_nil)))))))
  (pss_one (ps_fld (pv 0) (pe_callTy call_tuple_of (by rfl) B.tuple (by decide +kernel) (pa_cons (pv 3) pa_nil)) rfl)))))), ?_⟩
    refine ⟨fun σ H' => σ = [some (.ref p), some x, none, none, none, none] ∧ Kp [] H H' ∧ ∃ ds, RowD d ds ∧ 1 ≤ ds.length ∧ ds.length ≤ 5, ?_, ?_⟩
    · refine ⟨_, rfl, S, q, n, x, d, rfl, hx, fun H1 k1 => ⟨_, rfl, ?_⟩⟩
      have hx1 := hx.keep k1
      have bad : (¬ ∃ ds, RowD d ds ∧ 1 ≤ ds.length ∧ ds.length ≤ 5) → ∀ (dd : Addr), H1 dd = none → E (.ref CE) (some dd) (upd H1 dd (.xd [("at", .int (-1))])) := fun hb dd hdd =>
        kE (-1) dd _ (.inl ⟨rfl, hb⟩) (k1.snoc hdd) (k1.same.free hdd) upd_same
      by_cases hd : isRowD d = true
      · rw [hd]
        refine iteF ?_
        obtain ⟨xs, ds, hl, hrow, hlen⟩ : ∃ (xs : List V) (ds : List PyData), LenV K x H1 xs.length ∧ RowD d ds ∧ xs.length = ds.length := by
          cases hx1 with
          | lst rx lx ax => exact ⟨_, _, .inl ⟨_, .inl rx, rfl⟩, .inl rfl, ax.len⟩
          | tup rx lx ax => exact ⟨_, _, .inr ⟨_, .inl (.inl rx), rfl⟩, .inr rfl, ax.len⟩
          | _ => cases hd
        refine ⟨_, rfl, _, _, rfl, hl, _, _, rfl, rfl, _, rfl, ?_⟩
        have uniq : ∀ es, RowD d es → es = ds := fun es h => by
          rcases h with h | h <;> rcases hrow with h' | h' <;> rw [h] at h'
          · exact PyData.list.inj h'
          · cases h'
          · cases h'
          · exact PyData.tuple.inj h'
        by_cases h1 : 1 ≤ xs.length
        · rw [decide_eq_true (show (1 : Int) ≤ (xs.length : Int) by omega)]
          refine iteT ?_
          refine ⟨_, _, rfl, rfl, _, rfl, ?_⟩
          by_cases h5 : xs.length ≤ 5
          · rw [decide_eq_true (show (xs.length : Int) ≤ 5 by omega)]
            refine iteF ?_
            exact ⟨rfl, k1, ds, hrow, by omega, by omega⟩
          · rw [decide_eq_false (show ¬ (xs.length : Int) ≤ 5 by omega)]
            refine iteT ?_
            refine ⟨_, rfl, by simp, fun b hb => err_in hb fun dd hdd => bad ?_ dd hdd⟩
            rintro ⟨es, h, h', h''⟩
            rw [uniq es h] at h''
            omega
        · rw [decide_eq_false (show ¬ (1 : Int) ≤ (xs.length : Int) by omega)]
          refine iteF ?_
          refine ⟨_, rfl, ?_⟩
          refine iteT ?_
          refine ⟨_, rfl, by simp, fun b hb => err_in hb fun dd hdd => bad ?_ dd hdd⟩
          rintro ⟨es, h, h', h''⟩
          rw [uniq es h] at h'
          omega
      · rw [Bool.eq_false_iff.mpr hd]
        refine iteT (iteT ?_)
        refine ⟨_, rfl, by simp, fun b hb => err_in hb fun dd hdd => bad ?_ dd hdd⟩
        rintro ⟨es, h, h'⟩
        rcases h with h | h
        all_goals (rw [h] at hd; exact hd rfl)
    · rintro σ' H1 ⟨rfl, k1, ds, hrow, l1, l5⟩
      have hx1 := (hx.keep k1).inH
      refine ⟨by show 0 ≤ sizeLine; decide, fun pn hn => ⟨by show 0 ≤ sizeLine; decide, fun pm hm0 => ?_⟩⟩
      have npm : pn ≠ pm := fun z => by rw [← z, upd_same] at hm0; cases hm0
      have hm1 : H1 pm = none := by rw [upd_ne (Ne.symm npm)] at hm0; exact hm0
      have kk : Kp [] H1 (upd (upd H1 pn (.lst [])) pm (.lst [])) := (Kp.new hn).snoc hm0
      rcases hrow with rfl | rfl
      · cases hx1 with
        | @lst m a xs _ rx lx ax =>
          have el : xs.length = ds.length := ax.len
          have hrow : RowD (.list ds) ds := .inl rfl
          refine .inl ⟨_, rfl, a, xs, rfl, .inl (kk.rd (fun z => nomatch z) rx), ?_⟩
          refine for_it (walk_enum (xs := xs)) (fun i σ H' => (∃ v w : Option V, σ = [some (.ref p), some (.ref a), some (.ref pn), some (.ref pm), v, w]) ∧ Kp [] H1 H' ∧ ∃ (tbs : List (Str × List Str)) (ms : List V), TabsD (ds.take i) tbs ∧ (tbs.map (·.1)).Nodup ∧ H' pn = some (.lst ((tbs.map (·.1)).map V.str)) ∧ H' pm = some (.lst ms) ∧ ms.length = i ∧ ImAll H' 2 ms (tbs.map dTab))
            ⟨⟨none, none, rfl⟩, kk, [], [], .nil, List.nodup_nil, by rw [upd_ne npm, upd_same]; rfl, upd_same, rfl, .nil⟩ (fun i σ H' _ ⟨_, k2, _⟩ => .inl (k2.rd (fun z => nomatch z) rx)) ?_ ?_
          · rintro i v σ H2 H3 hi' ⟨⟨v0, w0, rfl⟩, k2, tbs, ms, t1, t2, h2, h3, t3, t4⟩ ⟨T, a1, y, rfl, hT, rfl, ea, ey⟩
            cases ea
            obtain ⟨dy, hdy, dt⟩ := ax.getV ey
            have k3 : Kp [] H1 (upd H2 T (.tup [.int (i : Nat), y])) := k2.snoc hT
            have Tpn : pn ≠ T := ne_of_none h2 hT
            have Tpm : pm ≠ T := ne_of_none h3 hT
            refine ⟨T, _, rfl, SqT.of upd_same, rfl, _, _, rfl, _, _, rfl, rfl, ?_⟩
            refine ⟨_, rfl, _, q, m, y, dy, rfl, dt.keep k3, fun H4 k4 => ⟨_, rfl, ?_⟩⟩
            have k5 : Kp [] H1 H4 := k3.trans k4
            have h2' : H4 pn = some (.lst ((tbs.map (·.1)).map V.str)) := k4.at_ _ _ (by rw [upd_ne Tpn]; exact h2) (fun z => nomatch z)
            have h3' : H4 pm = some (.lst ms) := k4.at_ _ _ (by rw [upd_ne Tpm]; exact h3) (fun z => nomatch z)
            have t4' : ImAll H4 2 ms (tbs.map dTab) := ImAll.kp ((Kp.new (ms := []) hT).trans k4) t4
            have bad : (¬ ∃ t, TabD dy t ∧ t.1 ∉ tbs.map (·.1)) → ∀ (dd : Addr), H4 dd = none → E (.ref CE) (some dd) (upd H4 dd (.xd [("at", .int ((i : Nat) : Int))])) := fun hb dd hdd => by
              have kH : Kp [] H H4 := k1.trans k5
              refine kE i dd _ (.inr ⟨ds, i, dy, tbs, hrow, l1, l5, rfl, hdy, t1, t2, hb⟩) (kH.snoc hdd) (kH.same.free hdd) upd_same
            by_cases ht : ∃ t, TabD dy t
            · rw [bP_t ht]
              refine iteF ?_
              obtain ⟨t, e, rfl, nt, ne⟩ := ht
              have dt' := dt.keep k5
              cases dt' with
              | @tup m' a' ys _ ry ly ay =>
                cases ay with
                | @cons _ y0 _ _ _ a0 ay =>
                  cases ay with
                  | @cons _ y1 _ _ _ a1 ay =>
                    cases ay
                    cases a0 with
                    | str _ hz =>
                      refine ⟨_, rfl, a', _, _, .str t.1, rfl, rfl, .inl (.inl ry), rfl, _, rfl, pn, _, rfl, .inl (SqL.of h2'), rfl, flat_strs _, _, rfl, ?_⟩
                      rw [inV_strs]
                      by_cases hm : t.1 ∈ tbs.map (·.1)
                      · rw [decide_eq_true hm]
                        refine iteT ?_
                        refine ⟨_, rfl, by simp, fun b hb => err_in hb fun dd hdd => bad ?_ dd hdd⟩
                        rintro ⟨t', h', hn'⟩
                        have := TabD.inj h' (show TabD (.tuple [.str t.1, e]) t from ⟨e, rfl, nt, ne⟩)
                        rw [this] at hn'
                        exact hn' hm
                      · rw [decide_eq_false hm]
                        refine iteF ?_
                        -- names.append(table[0])
                        have lt5 : i < 5 := by omega
                        have ltb : tbs.length = i := by
                          have := t1.len
                          rw [List.length_take] at this
                          omega
                        refine ⟨_, rfl, .inl ⟨rfl, _, SqL.of h2'⟩, _, rfl, a', _, _, .str t.1, rfl, rfl, .inl (.inl ry), rfl, pn, _, _, rfl, rfl, h2', by rw [List.length_map, List.length_map, ltb]; exact small1000 (by omega), ?_⟩
                        have npn : H1 pn = none := hn
                        have k6 : Kp [] H1 (upd H4 pn (.lst ((tbs.map (·.1)).map V.str ++ [.str t.1]))) := k5.late npn
                        have ry6 : ((upd H4 pn (.lst ((tbs.map (·.1)).map V.str ++ [.str t.1])))) a' = some (.tup [.str t.1, y1]) := (Kp.updL (ms := [pn]) h2' (by simp)).tp _ _ ry
                        have h36 : upd H4 pn (.lst ((tbs.map (·.1)).map V.str ++ [.str t.1])) pm = some (.lst ms) := by rw [upd_ne (Ne.symm npm)]; exact h3'
                        -- made.append((table[0], tuple(table[1])))
                        refine ⟨_, rfl, .inl ⟨rfl, _, SqL.of h36⟩, _, rfl, a', _, _, .str t.1, rfl, rfl, .inl (.inl ry6), rfl, _, rfl, a', _, _, y1, rfl, rfl, .inl (.inl ry6), rfl, ?_⟩
                        have fin : ∀ (H7 : Hp) (u : Addr), Kp [] (upd H4 pn (.lst ((tbs.map (·.1)).map V.str ++ [.str t.1]))) H7 → H7 u = some (.tup (t.2.map V.str)) → ∀ P', H7 P' = none →
                            (∃ v w : Option V, ([some (.ref p), some (.ref a), some (.ref pn), some (.ref pm), some (.int (i : Nat)), some (.ref a')] : L2.St) = [some (.ref p), some (.ref a), some (.ref pn), some (.ref pm), v, w]) ∧
                            Kp [] H1 (upd (upd H7 P' (.tup [.str t.1, .ref u])) pm (.lst (ms ++ [.ref P']))) ∧ ∃ (tbs : List (Str × List Str)) (ms' : List V), TabsD (ds.take (i + 1)) tbs ∧ (tbs.map (·.1)).Nodup ∧
                              upd (upd H7 P' (.tup [.str t.1, .ref u])) pm (.lst (ms ++ [.ref P'])) pn = some (.lst ((tbs.map (·.1)).map V.str)) ∧ upd (upd H7 P' (.tup [.str t.1, .ref u])) pm (.lst (ms ++ [.ref P'])) pm = some (.lst ms') ∧ ms'.length = i + 1 ∧ ImAll (upd (upd H7 P' (.tup [.str t.1, .ref u])) pm (.lst (ms ++ [.ref P']))) 2 ms' (tbs.map dTab) := by
                          intro H7 u k7 hu P' hP
                          have h37 : H7 pm = some (.lst ms) := k7.at_ _ _ h36 (fun z => nomatch z)
                          have k8 : Kp [pm] H7 (upd (upd H7 P' (.tup [.str t.1, .ref u])) pm (.lst (ms ++ [.ref P']))) := (Kp.new hP).trans (Kp.updL (by rw [upd_ne (ne_of_none h37 hP)]; exact h37) (by simp))
                          have hn7 : H7 pn = some (.lst ((tbs.map (·.1)).map V.str ++ [.str t.1])) := k7.at_ _ _ upd_same (fun z => nomatch z)
                          have uP : u ≠ P' := ne_of_none hu hP
                          have pP : P' ≠ pm := Ne.symm (ne_of_none h37 hP)
                          have hl2 := ne.2.2.2.2
                          have upm : u ≠ pm := fun z => by rw [z, h37] at hu; cases hu
                          refine ⟨⟨_, _, rfl⟩, ((k6.trans k7).snoc hP).late hm1, tbs ++ [t], ms ++ [.ref P'], ?_, ?_, ?_, upd_same, by simp [t3], ?_⟩
                          · rw [take_snoc hdy]; exact t1.snoc ⟨e, rfl, nt, ne⟩
                          · rw [List.map_append]; exact nd_snoc t2 hm
                          · rw [upd_ne npm, upd_ne (ne_of_none hn7 hP), hn7]; simp
                          · rw [List.map_append]
                            have km : Kp [pn, pm] H4 (upd (upd H7 P' (.tup [.str t.1, .ref u])) pm (.lst (ms ++ [.ref P']))) := ((Kp.updL h2' (by simp)).trans k7.zero).trans (k8.mono (by simp))
                            refine DtAll.append (ImAll.kp km t4') (.cons ?_ .nil)
                            refine .tup (by rw [upd_ne pP, upd_same]) ⟨by simp, _, by rw [upd_ne pP, upd_same]⟩ (.cons (.str _ hz) (.cons (.tup (by rw [upd_ne upm, upd_ne uP]; exact hu) ⟨by rw [List.length_map]; omega, _, by rw [upd_ne upm, upd_ne uP]; exact hu⟩ ?_) .nil))
                            exact dtAll_strs fun w' hw' => Nat.le_trans (ne.2.1 w' hw').2.1 (by decide)
                        rcases ne.1 with e1 | e1 <;> subst e1
                        · cases a1 with
                          | @lst _ b zs _ rb lb ab =>
                            have ez := DtAll.strs ab
                            subst ez
                            have rb6 : Rd (upd H4 pn (.lst ((tbs.map (·.1)).map V.str ++ [.str t.1]))) b (.lst (t.2.map V.str)) := (Kp.updL (ms := [pn]) h2' (by simp)).rd (by
                              intro z
                              have e' : b = pn := by simpa using z
                              exact lb.2.2 (by rw [e']; exact hn)) rb
                            refine ⟨b, _, rfl, .inl ⟨.inl rb6, fun u hu => ⟨by show 2 ≤ sizeLine; decide, fun P' hP => ?_⟩⟩⟩
                            have h38 : upd (upd (upd H4 pn (.lst ((tbs.map (·.1)).map V.str ++ [.str t.1]))) u (.tup (t.2.map V.str))) P' (.tup [.str t.1, .ref u]) pm = some (.lst ms) := by
                              have x1 : pm ≠ u := ne_of_none h36 hu
                              have x2 : pm ≠ P' := ne_of_none (by rw [upd_ne x1]; exact h36) hP
                              rw [upd_ne x2, upd_ne x1]; exact h36
                            refine ⟨pm, _, _, rfl, rfl, h38, by rw [t3]; exact small1000 (by omega), ?_⟩
                            exact fin _ u (Kp.new hu) upd_same P' hP
                        · cases a1 with
                          | @tup _ b zs _ rb lb ab =>
                            have ez := DtAll.strs ab
                            subst ez
                            have rb6 : ((upd H4 pn (.lst ((tbs.map (·.1)).map V.str ++ [.str t.1])))) b = some (.tup (t.2.map V.str)) := (Kp.updL (ms := [pn]) h2' (by simp)).tp _ _ rb
                            refine ⟨b, _, rfl, .inr ⟨.inl (.inl rb6), by show 2 ≤ sizeLine; decide, fun P' hP => ?_⟩⟩
                            have h38 : upd (upd H4 pn (.lst ((tbs.map (·.1)).map V.str ++ [.str t.1]))) P' (.tup [.str t.1, .ref b]) pm = some (.lst ms) := by
                              rw [upd_ne (ne_of_none h36 hP)]; exact h36
                            refine ⟨pm, _, _, rfl, rfl, h38, by rw [t3]; exact small1000 (by omega), ?_⟩
                            exact fin _ b (Kp.refl _) rb6 P' hP
            · rw [bP_f ht]
              refine iteT (iteT ?_)
              refine ⟨_, rfl, by simp, fun b hb => err_in hb fun dd hdd => bad ?_ dd hdd⟩
              rintro ⟨t, h', _⟩
              exact ht ⟨t, h'⟩
          · rintro σ H2 ⟨⟨v0, w0, rfl⟩, k2, tbs, ms, t1, t2, h2, h3, t3, t4⟩
            rw [el, List.take_length] at t1
            have kH : Kp [] H H2 := k1.trans k2
            have hp2 : H2 p = some (.ins C dx []) := kH.at_ _ _ hp (fun z => nomatch z)
            refine ⟨_, rfl, pm, _, rfl, .inl ⟨SqL.of h3, fun tt htt => ?_⟩⟩
            have pt : p ≠ tt := ne_of_none hp2 htt
            refine ⟨_, rfl, p, C, dx, [], rfl, by rw [upd_ne pt]; exact hp2, T.cl, T.nT, by show 0 < 1000; decide, ?_⟩
            refine kQ tbs _ ⟨ds, hrow, l1, l5, t1, t2⟩ (((kH.snoc htt).zero).trans (Kp.set (by rw [upd_ne pt]; exact hp2) (fun _ z => by cases z) (by simp))) ⟨dx, .ref tt, upd_same, ?_⟩
            have kf : Kp [p] H2 (upd (upd H2 tt (.tup ms)) p (.ins C dx (putF "tables" (.ref tt) []))) := (Kp.new htt).trans (Kp.set (by rw [upd_ne pt]; exact hp2) (fun _ z => by cases z) (by simp))
            refine .tup (by rw [upd_ne (Ne.symm pt), upd_same]) ⟨by rw [t3]; omega, _, by rw [upd_ne (Ne.symm pt), upd_same]⟩ (ImAll.kp kf t4)
      · cases hx1 with
        | @tup m a xs _ rx lx ax =>
          have el : xs.length = ds.length := ax.len
          have hrow : RowD (.tuple ds) ds := .inr rfl
          refine .inr ⟨_, rfl, a, xs, rfl, .inl (.inl (kk.tp _ _ rx)), ?_⟩
          refine for_it (walk_enumT (xs := xs)) (fun i σ H' => (∃ v w : Option V, σ = [some (.ref p), some (.ref a), some (.ref pn), some (.ref pm), v, w]) ∧ Kp [] H1 H' ∧ ∃ (tbs : List (Str × List Str)) (ms : List V), TabsD (ds.take i) tbs ∧ (tbs.map (·.1)).Nodup ∧ H' pn = some (.lst ((tbs.map (·.1)).map V.str)) ∧ H' pm = some (.lst ms) ∧ ms.length = i ∧ ImAll H' 2 ms (tbs.map dTab))
            ⟨⟨none, none, rfl⟩, kk, [], [], .nil, List.nodup_nil, by rw [upd_ne npm, upd_same]; rfl, upd_same, rfl, .nil⟩ (fun i σ H' _ ⟨_, k2, _⟩ => .inl (.inl (k2.tp _ _ rx))) ?_ ?_
          · rintro i v σ H2 H3 hi' ⟨⟨v0, w0, rfl⟩, k2, tbs, ms, t1, t2, h2, h3, t3, t4⟩ ⟨T, a1, y, rfl, hT, rfl, ea, ey⟩
            cases ea
            obtain ⟨dy, hdy, dt⟩ := ax.getV ey
            have k3 : Kp [] H1 (upd H2 T (.tup [.int (i : Nat), y])) := k2.snoc hT
            have Tpn : pn ≠ T := ne_of_none h2 hT
            have Tpm : pm ≠ T := ne_of_none h3 hT
            refine ⟨T, _, rfl, SqT.of upd_same, rfl, _, _, rfl, _, _, rfl, rfl, ?_⟩
            refine ⟨_, rfl, _, q, m, y, dy, rfl, dt.keep k3, fun H4 k4 => ⟨_, rfl, ?_⟩⟩
            have k5 : Kp [] H1 H4 := k3.trans k4
            have h2' : H4 pn = some (.lst ((tbs.map (·.1)).map V.str)) := k4.at_ _ _ (by rw [upd_ne Tpn]; exact h2) (fun z => nomatch z)
            have h3' : H4 pm = some (.lst ms) := k4.at_ _ _ (by rw [upd_ne Tpm]; exact h3) (fun z => nomatch z)
            have t4' : ImAll H4 2 ms (tbs.map dTab) := ImAll.kp ((Kp.new (ms := []) hT).trans k4) t4
            have bad : (¬ ∃ t, TabD dy t ∧ t.1 ∉ tbs.map (·.1)) → ∀ (dd : Addr), H4 dd = none → E (.ref CE) (some dd) (upd H4 dd (.xd [("at", .int ((i : Nat) : Int))])) := fun hb dd hdd => by
              have kH : Kp [] H H4 := k1.trans k5
              refine kE i dd _ (.inr ⟨ds, i, dy, tbs, hrow, l1, l5, rfl, hdy, t1, t2, hb⟩) (kH.snoc hdd) (kH.same.free hdd) upd_same
            by_cases ht : ∃ t, TabD dy t
            · rw [bP_t ht]
              refine iteF ?_
              obtain ⟨t, e, rfl, nt, ne⟩ := ht
              have dt' := dt.keep k5
              cases dt' with
              | @tup m' a' ys _ ry ly ay =>
                cases ay with
                | @cons _ y0 _ _ _ a0 ay =>
                  cases ay with
                  | @cons _ y1 _ _ _ a1 ay =>
                    cases ay
                    cases a0 with
                    | str _ hz =>
                      refine ⟨_, rfl, a', _, _, .str t.1, rfl, rfl, .inl (.inl ry), rfl, _, rfl, pn, _, rfl, .inl (SqL.of h2'), rfl, flat_strs _, _, rfl, ?_⟩
                      rw [inV_strs]
                      by_cases hm : t.1 ∈ tbs.map (·.1)
                      · rw [decide_eq_true hm]
                        refine iteT ?_
                        refine ⟨_, rfl, by simp, fun b hb => err_in hb fun dd hdd => bad ?_ dd hdd⟩
                        rintro ⟨t', h', hn'⟩
                        have := TabD.inj h' (show TabD (.tuple [.str t.1, e]) t from ⟨e, rfl, nt, ne⟩)
                        rw [this] at hn'
                        exact hn' hm
                      · rw [decide_eq_false hm]
                        refine iteF ?_
                        -- names.append(table[0])
                        have lt5 : i < 5 := by omega
                        have ltb : tbs.length = i := by
                          have := t1.len
                          rw [List.length_take] at this
                          omega
                        refine ⟨_, rfl, .inl ⟨rfl, _, SqL.of h2'⟩, _, rfl, a', _, _, .str t.1, rfl, rfl, .inl (.inl ry), rfl, pn, _, _, rfl, rfl, h2', by rw [List.length_map, List.length_map, ltb]; exact small1000 (by omega), ?_⟩
                        have npn : H1 pn = none := hn
                        have k6 : Kp [] H1 (upd H4 pn (.lst ((tbs.map (·.1)).map V.str ++ [.str t.1]))) := k5.late npn
                        have ry6 : ((upd H4 pn (.lst ((tbs.map (·.1)).map V.str ++ [.str t.1])))) a' = some (.tup [.str t.1, y1]) := (Kp.updL (ms := [pn]) h2' (by simp)).tp _ _ ry
                        have h36 : upd H4 pn (.lst ((tbs.map (·.1)).map V.str ++ [.str t.1])) pm = some (.lst ms) := by rw [upd_ne (Ne.symm npm)]; exact h3'
                        -- made.append((table[0], tuple(table[1])))
                        refine ⟨_, rfl, .inl ⟨rfl, _, SqL.of h36⟩, _, rfl, a', _, _, .str t.1, rfl, rfl, .inl (.inl ry6), rfl, _, rfl, a', _, _, y1, rfl, rfl, .inl (.inl ry6), rfl, ?_⟩
                        have fin : ∀ (H7 : Hp) (u : Addr), Kp [] (upd H4 pn (.lst ((tbs.map (·.1)).map V.str ++ [.str t.1]))) H7 → H7 u = some (.tup (t.2.map V.str)) → ∀ P', H7 P' = none →
                            (∃ v w : Option V, ([some (.ref p), some (.ref a), some (.ref pn), some (.ref pm), some (.int (i : Nat)), some (.ref a')] : L2.St) = [some (.ref p), some (.ref a), some (.ref pn), some (.ref pm), v, w]) ∧
                            Kp [] H1 (upd (upd H7 P' (.tup [.str t.1, .ref u])) pm (.lst (ms ++ [.ref P']))) ∧ ∃ (tbs : List (Str × List Str)) (ms' : List V), TabsD (ds.take (i + 1)) tbs ∧ (tbs.map (·.1)).Nodup ∧
                              upd (upd H7 P' (.tup [.str t.1, .ref u])) pm (.lst (ms ++ [.ref P'])) pn = some (.lst ((tbs.map (·.1)).map V.str)) ∧ upd (upd H7 P' (.tup [.str t.1, .ref u])) pm (.lst (ms ++ [.ref P'])) pm = some (.lst ms') ∧ ms'.length = i + 1 ∧ ImAll (upd (upd H7 P' (.tup [.str t.1, .ref u])) pm (.lst (ms ++ [.ref P']))) 2 ms' (tbs.map dTab) := by
                          intro H7 u k7 hu P' hP
                          have h37 : H7 pm = some (.lst ms) := k7.at_ _ _ h36 (fun z => nomatch z)
                          have k8 : Kp [pm] H7 (upd (upd H7 P' (.tup [.str t.1, .ref u])) pm (.lst (ms ++ [.ref P']))) := (Kp.new hP).trans (Kp.updL (by rw [upd_ne (ne_of_none h37 hP)]; exact h37) (by simp))
                          have hn7 : H7 pn = some (.lst ((tbs.map (·.1)).map V.str ++ [.str t.1])) := k7.at_ _ _ upd_same (fun z => nomatch z)
                          have uP : u ≠ P' := ne_of_none hu hP
                          have pP : P' ≠ pm := Ne.symm (ne_of_none h37 hP)
                          have hl2 := ne.2.2.2.2
                          have upm : u ≠ pm := fun z => by rw [z, h37] at hu; cases hu
                          refine ⟨⟨_, _, rfl⟩, ((k6.trans k7).snoc hP).late hm1, tbs ++ [t], ms ++ [.ref P'], ?_, ?_, ?_, upd_same, by simp [t3], ?_⟩
                          · rw [take_snoc hdy]; exact t1.snoc ⟨e, rfl, nt, ne⟩
                          · rw [List.map_append]; exact nd_snoc t2 hm
                          · rw [upd_ne npm, upd_ne (ne_of_none hn7 hP), hn7]; simp
                          · rw [List.map_append]
                            have km : Kp [pn, pm] H4 (upd (upd H7 P' (.tup [.str t.1, .ref u])) pm (.lst (ms ++ [.ref P']))) := ((Kp.updL h2' (by simp)).trans k7.zero).trans (k8.mono (by simp))
                            refine DtAll.append (ImAll.kp km t4') (.cons ?_ .nil)
                            refine .tup (by rw [upd_ne pP, upd_same]) ⟨by simp, _, by rw [upd_ne pP, upd_same]⟩ (.cons (.str _ hz) (.cons (.tup (by rw [upd_ne upm, upd_ne uP]; exact hu) ⟨by rw [List.length_map]; omega, _, by rw [upd_ne upm, upd_ne uP]; exact hu⟩ ?_) .nil))
                            exact dtAll_strs fun w' hw' => Nat.le_trans (ne.2.1 w' hw').2.1 (by decide)
                        rcases ne.1 with e1 | e1 <;> subst e1
                        · cases a1 with
                          | @lst _ b zs _ rb lb ab =>
                            have ez := DtAll.strs ab
                            subst ez
                            have rb6 : Rd (upd H4 pn (.lst ((tbs.map (·.1)).map V.str ++ [.str t.1]))) b (.lst (t.2.map V.str)) := (Kp.updL (ms := [pn]) h2' (by simp)).rd (by
                              intro z
                              have e' : b = pn := by simpa using z
                              exact lb.2.2 (by rw [e']; exact hn)) rb
                            refine ⟨b, _, rfl, .inl ⟨.inl rb6, fun u hu => ⟨by show 2 ≤ sizeLine; decide, fun P' hP => ?_⟩⟩⟩
                            have h38 : upd (upd (upd H4 pn (.lst ((tbs.map (·.1)).map V.str ++ [.str t.1]))) u (.tup (t.2.map V.str))) P' (.tup [.str t.1, .ref u]) pm = some (.lst ms) := by
                              have x1 : pm ≠ u := ne_of_none h36 hu
                              have x2 : pm ≠ P' := ne_of_none (by rw [upd_ne x1]; exact h36) hP
                              rw [upd_ne x2, upd_ne x1]; exact h36
                            refine ⟨pm, _, _, rfl, rfl, h38, by rw [t3]; exact small1000 (by omega), ?_⟩
                            exact fin _ u (Kp.new hu) upd_same P' hP
                        · cases a1 with
                          | @tup _ b zs _ rb lb ab =>
                            have ez := DtAll.strs ab
                            subst ez
                            have rb6 : ((upd H4 pn (.lst ((tbs.map (·.1)).map V.str ++ [.str t.1])))) b = some (.tup (t.2.map V.str)) := (Kp.updL (ms := [pn]) h2' (by simp)).tp _ _ rb
                            refine ⟨b, _, rfl, .inr ⟨.inl (.inl rb6), by show 2 ≤ sizeLine; decide, fun P' hP => ?_⟩⟩
                            have h38 : upd (upd H4 pn (.lst ((tbs.map (·.1)).map V.str ++ [.str t.1]))) P' (.tup [.str t.1, .ref b]) pm = some (.lst ms) := by
                              rw [upd_ne (ne_of_none h36 hP)]; exact h36
                            refine ⟨pm, _, _, rfl, rfl, h38, by rw [t3]; exact small1000 (by omega), ?_⟩
                            exact fin _ b (Kp.refl _) rb6 P' hP
            · rw [bP_f ht]
              refine iteT (iteT ?_)
              refine ⟨_, rfl, by simp, fun b hb => err_in hb fun dd hdd => bad ?_ dd hdd⟩
              rintro ⟨t, h', _⟩
              exact ht ⟨t, h'⟩
          · rintro σ H2 ⟨⟨v0, w0, rfl⟩, k2, tbs, ms, t1, t2, h2, h3, t3, t4⟩
            rw [el, List.take_length] at t1
            have kH : Kp [] H H2 := k1.trans k2
            have hp2 : H2 p = some (.ins C dx []) := kH.at_ _ _ hp (fun z => nomatch z)
            refine ⟨_, rfl, pm, _, rfl, .inl ⟨SqL.of h3, fun tt htt => ?_⟩⟩
            have pt : p ≠ tt := ne_of_none hp2 htt
            refine ⟨_, rfl, p, C, dx, [], rfl, by rw [upd_ne pt]; exact hp2, T.cl, T.nT, by show 0 < 1000; decide, ?_⟩
            refine kQ tbs _ ⟨ds, hrow, l1, l5, t1, t2⟩ (((kH.snoc htt).zero).trans (Kp.set (by rw [upd_ne pt]; exact hp2) (fun _ z => by cases z) (by simp))) ⟨dx, .ref tt, upd_same, ?_⟩
            have kf : Kp [p] H2 (upd (upd H2 tt (.tup ms)) p (.ins C dx (putF "tables" (.ref tt) []))) := (Kp.new htt).trans (Kp.set (by rw [upd_ne pt]; exact hp2) (fun _ z => by cases z) (by simp))
            refine .tup (by rw [upd_ne (Ne.symm pt), upd_same]) ⟨by rw [t3]; omega, _, by rw [upd_ne (Ne.symm pt), upd_same]⟩ (ImAll.kp kf t4)
end
end Fm

namespace Fm
open PySem PySem.Spec PyProof.Rows L2
/-! ### tables as data: equal as Python sees them -/
def GoodT (t : Str × List Str) : Prop := IsNm t.1 ∧ (∀ w ∈ t.2, IsNm w) ∧ t.2.Nodup ∧ 1 ≤ t.2.length ∧ t.2.length ≤ 4
def GoodTs (tbs : List (Str × List Str)) : Prop := (∀ t ∈ tbs, GoodT t) ∧ (tbs.map (·.1)).Nodup ∧ 1 ≤ tbs.length ∧ tbs.length ≤ 5
theorem strOk_nm {w : Str} (h : IsNm w) : PyData.strOk w = true := by
  unfold PyData.strOk
  rw [Array.all_eq_true']
  intro c hc
  have := h.2.2 c (by simpa using hc)
  simp
  omega
mutual
theorem Dt.dp {S : Addr → Prop} {q : Bool} {H : Hp} {K : PySem.W.Frag} : ∀ {n : Nat} {v : V} {d : PyData}, Dt S q H n v d → d.canLay0 = true → Dp K H v d
  | _, _, _, .non, _ => .non
  | _, _, _, .bl b, _ => .bl b
  | _, _, _, .int b, _ => .int b
  | _, _, _, .str b h, _ => .str b
  | _, _, _, .lst r l a, h => .lst (.inl r) (DtAll.dp a (by simpa [PyData.canLay0] using h))
  | _, _, _, .tup r l a, h => .tup (.inl (.inl r)) (DtAll.dp a (by simpa [PyData.canLay0] using h))
  | _, _, _, .dic r l a, h => by simp [PyData.canLay0] at h
theorem DtAll.dp {S : Addr → Prop} {q : Bool} {H : Hp} {K : PySem.W.Frag} : ∀ {n : Nat} {v : List V} {d : List PyData}, DtAll S q H n v d → PyData.canLayAll0 d = true → DpAll K H v d
  | _, _, _, .nil, _ => .nil
  | _, _, _, .cons a b, h => by
    have h' := Bool.and_eq_true_iff.mp (show (_ && _) = true by simpa only [PyData.canLayAll0] using h)
    exact .cons (Dt.dp a h'.1) (DtAll.dp b h'.2)
end

/-- an instance's class, as isinstance asks of it -/
structure InsX (K : PySem.W.Frag) (C : Addr) : Prop where
  cl : Cls K C
  ha : PySem.W.findIn K (.ref C) "__class__" = some (some (.builtin "object.__class__"))
  hn : PySem.W.specialIn K (.builtin "object.__class__") "__get__" = some (some (.builtin "getset_descriptor.__get__"))
  htk : PySem.W.takesIn K (.builtin "object.__class__") = some true
  hm : PySem.W.mroIn K C (.type "object") = some true
  dat : ∀ T ∈ ["NoneType", "bool", "int", "str", "list", "tuple", "dict"], PySem.W.kitOne K (.type T) (.ref C) = some false
theorem InsX.ty {K : PySem.W.Frag} {C : Addr} (T : InsX K C) {H : Hp} {a dx : Addr} {fs : List (Str × V)} (e : H a = some (.ins C dx fs)) : TyX K H (.ref a) (.ref C) := .base (.ins e T.cl T.ha T.hn T.htk T.hm)
theorem kit_self {K : PySem.W.Frag} {C : Addr} : PySem.W.kitOne K (.ref C) (.ref C) = some true := by
  unfold PySem.W.kitOne
  rw [if_pos (by simp)]
theorem Im.tab {H : Hp} {n : Nat} {v : V} {t : Str × List Str} (h : Im H (n + 2) v (dTab t)) : ∃ a b, v = .ref a ∧ H a = some (.tup [.str t.1, .ref b]) ∧ Im H (n + 1) (.ref b) (.tuple (t.2.map .str)) := by
  cases h with
  | tup r l a =>
    cases a with
    | cons a0 a =>
      cases a with
      | cons a1 a =>
        cases a
        cases a0
        cases id a1 with
        | tup r1 l1 a11 => exact ⟨_, _, rfl, r, a1⟩
end Fm

namespace Fm
open PySem PySem.Spec PyProof.Rows L2
theorem DtAll.set {S : Addr → Prop} {q : Bool} {H : Hp} : ∀ {n : Nat} {v : List V} {d : List PyData}, DtAll S q H n v d → ∀ (i : Nat) {x : V} {e : PyData}, Dt S q H n x e → DtAll S q H n (v.set i x) (d.set i e)
  | _, _, _, .nil, i, _, _, _ => .nil
  | _, _, _, .cons a b, 0, _, _, h => .cons h b
  | _, _, _, .cons a b, i + 1, _, _, h => .cons a (DtAll.set b i h)
theorem catA_in {K : PySem.W.Frag} {H : Hp} {a b : Addr} {xs ys : List V} {Q : VK} (ha : H a = some (.tup xs)) (hb : H b = some (.tup ys)) (hl : xs.length + ys.length ≤ sizeLine) (q : ∀ r H', Kp [] H H' → H' r = some (.tup (xs ++ ys)) → Q (.ref r) H') : rCatA K (.ref a) (.ref b) H Q := by
  refine ⟨a, b, xs, ys, rfl, rfl, .inl (.inl ha), .inl (.inl hb), hl, fun e => ?_, fun _ e => ?_, fun _ _ p hp => q p _ (Kp.new hp) upd_same⟩
  · exact q b H (Kp.refl _) (by rw [e, List.nil_append]; exact hb)
  · exact q a H (Kp.refl _) (by rw [e, List.append_nil]; exact ha)
theorem cutN_drop {xs : List V} {i : Nat} (h : i ≤ xs.length) : cutV xs (some ((i : Nat) : Int)) none = xs.drop i := by
  unfold cutV
  rw [show HT.sIx xs.length 0 (some ((i : Nat) : Int)) = min i xs.length from HT.sIx_nat _ _ i, HT.sIx_none, Nat.min_eq_left h]
  exact List.take_of_length_le (by rw [List.length_drop]; omega)
theorem atI_nat {α : Type} {xs : List α} {k : Nat} {x : α} (h : xs[k]? = some x) : atI xs (k : Int) = some x := atI_of (by omega) (by simpa using h)
def spInt : Sp := fun vs H Q _ => ∃ (S : Addr → Prop) (q : Bool) (n : Nat) (x : V) (d : PyData), vs = [x] ∧ Dt S q H n x d ∧ Q (.bl (isI d && !isB d)) H
def RwAt (H : Hp) (p : Addr) (xs : List V) : Prop := Rd H p (.lst xs) ∨ H p = some (.tup xs)
theorem RwAt.keep {H H' : Hp} {p : Addr} {xs : List V} (h : RwAt H p xs) (k : Kp [] H H') : RwAt H' p xs := h.elim (fun h => .inl (k.rd (fun z => nomatch z) h)) (fun h => .inr (k.tp _ _ h))
theorem RwAt.sq {H : Hp} {K : PySem.W.Frag} {p : Addr} {xs : List V} (h : RwAt H p xs) : SqL K H p xs ∨ SqT K H p xs := h.elim (fun h => .inl (.inl h)) (fun h => .inr (.inl (.inl h)))
theorem RwAt.len {H : Hp} {K : PySem.W.Frag} {p : Addr} {xs : List V} (h : RwAt H p xs) : LenV K (.ref p) H xs.length := h.elim (fun h => .inl ⟨_, .inl h, rfl⟩) (fun h => .inr ⟨_, .inl (.inl h), rfl⟩)
theorem RwAt.ix {H : Hp} {K : PySem.W.Frag} {p : Addr} {xs : List V} {i : Nat} {v : V} {Q : VK} (h : RwAt H p xs) (e : xs[i]? = some v) (q : Q v H) : rIxL K (.ref p) (.int (i : Int)) H Q ∨ rIxT K (.ref p) (.int (i : Int)) H Q :=
  h.elim (fun h => .inl ⟨p, xs, _, v, rfl, rfl, .inl h, atI_nat e, q⟩) (fun h => .inr ⟨p, xs, _, v, rfl, rfl, .inl (.inl h), atI_nat e, q⟩)
theorem Dt.row {S : Addr → Prop} {q : Bool} {H : Hp} {n : Nat} {x : V} {d : PyData} (h : Dt S q H n x d) (hd : isRowD d = true) : ∃ ds m p xs, x = .ref p ∧ n = m + 1 ∧ RwAt H p xs ∧ xs.length ≤ 1000000 ∧ S p ∧ DtAll S q H m xs ds ∧ ((d = .list ds ∧ isT d = false ∧ Rd H p (.lst xs)) ∨ (d = .tuple ds ∧ isT d = true ∧ H p = some (.tup xs))) := by
  cases h with
  | @lst m p xs ds rx lx ax => exact ⟨ds, m, p, xs, rfl, rfl, .inl rx, lx.1, lx.2, ax, .inl ⟨rfl, rfl, rx⟩⟩
  | @tup m p xs ds rx lx ax => exact ⟨ds, m, p, xs, rfl, rfl, .inr rx, lx.1, lx.2, ax, .inr ⟨rfl, rfl, rx⟩⟩
  | _ => cases hd
end Fm

namespace Fm
open PySem PySem.Spec PyProof.Rows L2
/-! ### values and rows of values -/
def InV (n : Int) : Prop := -1000000000 ≤ n ∧ n ≤ 1000000000
def VlD (d : PyData) : Prop := ∃ n, d = .int n ∧ InV n
def spIsVal : Sp := fun vs H Q _ => ∃ (S : Addr → Prop) (q : Bool) (n : Nat) (x : V) (d : PyData), vs = [x] ∧ Dt S q H n x d ∧ Q (.bl (bP (VlD d))) H
/-- a row of many values -/
def ValsD (many : Nat) (d : PyData) (ns : List Int) : Prop := RowD d (ns.map .int) ∧ ns.length = many ∧ ∀ n ∈ ns, InV n
section
variable {P : Program} {w : World} {K : PySem.W.Frag} {mg : Str → Option Value} {base : Heap}
theorem ok_is_integer (B : Bi mg) (D : Dfn K mg "is_integer" s_is_integer ["thing"]) : Has P w K mg base CX0 "is_integer" ["thing"] 1 spInt := by
  refine D.has sc_is_integer (fun vs H Q E h => ?_) (fun f cdv A outer s H vs Q E hr h => ?_)
  · obtain ⟨S, q, n, x, d, rfl, _⟩ := h; rfl
  · obtain ⟨S, q, n, x, d, rfl, hx, k⟩ := h
    refine ⟨_, (pss_one (ps_ret (pe_and (pe_callB call_isi (by rfl) B.isinstance (by decide +kernel) (pa_cons (pv 0) (pa_cons (pe_bltn (v := .ty "int") (by rfl) B.int (by decide +kernel) rfl) pa_nil))) (pe_one (pe_not (pe_callB call_isi (by rfl) B.isinstance (by decide +kernel) (pa_cons (pv 0) (pa_cons (pe_bltn (v := .ty "bool") (by rfl) B.bool (by decide +kernel) rfl) pa_nil)))))))), ?_⟩
    refine ⟨_, rfl, _, _, _, _, _, rfl, .ty _, hx.ty, kit_ty (kb_int _), _, rfl, ?_⟩
    cases hi : isI d with
    | false => rw [hi] at k; exact iteF k
    | true => rw [hi] at k; exact iteT ⟨_, rfl, _, _, _, _, _, rfl, .ty _, hx.ty, kit_ty (kb_bool _), _, rfl, k⟩
theorem ok_is_value {tk : Tok} (B : Bi mg) (M : mg "MOST_VALUE" = some (.int 1000000000 tk)) (D : Dfn K mg "is_value" s_is_value ["thing"]) (G_is_integer : Has P w K mg base CX0 "is_integer" ["thing"] 1 spInt) : Has P w K mg base CX0 "is_value" ["thing"] 2 spIsVal := by
  refine D.has sc_is_value (fun vs H Q E h => ?_) (fun f cdv A outer s H vs Q E hr h => ?_)
  · obtain ⟨S, q, n, x, d, rfl, _⟩ := h; rfl
  · obtain ⟨S, q, n, x, d, rfl, hx, k⟩ := h
    refine ⟨_, (pss_one (ps_ret (pe_and (pe_has G_is_integer (hr.mono (by omega)) (pa_cons (pv 0) pa_nil)) (pe_one (pe_chain op_le op_le (pe_un un_neg (pe_glob (v := .int 1000000000) rfl M ⟨_, rfl⟩)) (pv 0) (pe_glob (v := .int 1000000000) rfl M ⟨_, rfl⟩)))))), ?_⟩
    refine ⟨_, rfl, S, q, n, x, d, rfl, hx, _, rfl, ?_⟩
    cases hi : (isI d && !isB d) with
    | false =>
      refine iteF ?_
      rw [bP_f] at k
      · exact k
      · rintro ⟨n, rfl, _⟩; cases hi
    | true =>
      refine iteT ?_
      cases hx with
      | int i =>
        refine ⟨_, rfl, _, rfl, _, _, rfl, rfl, ?_⟩
        refine ⟨_, rfl, ?_⟩
        refine ite2 (fun h1 => ?_) (fun h1 => ?_)
        · have h1 := of_decide_eq_true h1
          refine ⟨_, _, rfl, rfl, ?_⟩
          by_cases h2 : i ≤ 1000000000
          · rw [bP_t ⟨i, rfl, h1, h2⟩] at k
            show Q (V.bl (decide (i ≤ 1000000000))) H
            rw [decide_eq_true h2]; exact k
          · show Q (V.bl (decide (i ≤ 1000000000))) H
            rw [decide_eq_false h2]
            rw [bP_f] at k
            · exact k
            · rintro ⟨n, e, _, h3⟩; cases e; exact h2 h3
        · have h1 : ¬ (-1000000000 ≤ i) := fun h => h1 (decide_eq_true h)
          rw [bP_f] at k
          · exact k
          · rintro ⟨n, e, h3, _⟩; cases e; exact h1 h3
      | _ => cases hi
end
end Fm

namespace Fm
open PySem PySem.Spec PyProof.Rows L2
/-! ### programs: what they are, as data, and when they are right -/
inductive Tm
  | val (i : Int)
  | of (v f : Str)
abbrev Fac := Str × Str
abbrev Prd := Int × List Fac
inductive Stm
  | put (b : Str) (ts : List Tm) (adds : List (List Prd))
  | same (a b : Tm) (body : List Stm)
  | scan (v t : Str) (body : List Stm)
  | run (v t f : Str) (body : List Stm)
  | seek (v t f : Str) (a : Tm) (body : List Stm)
  | each (v b : Str) (body : List Stm)
  | rise (v b k : Str) (body : List Stm)
  | look (v b : Str) (ts : List Tm) (body : List Stm)
def dRd (p : Fac) : PyData := .tuple [.str "of", .str p.1, .str p.2]
def dTm : Tm → PyData
  | .val i => .int i
  | .of v f => dRd (v, f)
inductive A2 {α β : Type} (R : α → β → Prop) : List α → List β → Prop
  | nil : A2 R [] []
  | cons {a : α} {b : β} {as : List α} {bs : List β} : R a b → A2 R as bs → A2 R (a :: as) (b :: bs)
section
variable {α β : Type} {R R' : α → β → Prop}
theorem A2.len : ∀ {as : List α} {bs : List β}, A2 R as bs → as.length = bs.length
  | _, _, .nil => rfl
  | _, _, .cons _ h => congrArg (· + 1) h.len
theorem A2.get : ∀ {as : List α} {bs : List β}, A2 R as bs → ∀ {i : Nat} {b : β}, bs[i]? = some b → ∃ a, as[i]? = some a ∧ R a b
  | _, _, .cons a h, 0, b, e => by cases e; exact ⟨_, rfl, a⟩
  | _, _, .cons a h, i + 1, b, e => h.get (i := i) e
theorem A2.getA : ∀ {as : List α} {bs : List β}, A2 R as bs → ∀ {i : Nat} {a : α}, as[i]? = some a → ∃ b, bs[i]? = some b ∧ R a b
  | _, _, .cons a h, 0, b, e => by cases e; exact ⟨_, rfl, a⟩
  | _, _, .cons a h, i + 1, b, e => h.getA (i := i) e
theorem A2.imp (i : ∀ a b, R a b → R' a b) : ∀ {as : List α} {bs : List β}, A2 R as bs → A2 R' as bs
  | _, _, .nil => .nil
  | _, _, .cons a h => .cons (i _ _ a) (h.imp i)
theorem A2.snoc {a : α} {b : β} (r : R a b) : ∀ {as : List α} {bs : List β}, A2 R as bs → A2 R (as ++ [a]) (bs ++ [b])
  | _, _, .nil => .cons r .nil
  | _, _, .cons x h => .cons x (h.snoc r)
end
def PrD (d : PyData) (p : Prd) : Prop := ∃ df, d = .tuple [.int p.1, df] ∧ RowD df (p.2.map dRd)
def PrsD (d : PyData) (ps : List Prd) : Prop := ∃ es, RowD d es ∧ A2 PrD es ps
mutual
inductive StD : PyData → Stm → Prop
  | put {b : Str} {ts : List Tm} {adds : List (List Prd)} {dk da : PyData} {es : List PyData} : RowD dk (ts.map dTm) → RowD da es → A2 PrsD es adds → StD (.tuple [.str "put", .str b, dk, da]) (.put b ts adds)
  | same {a b : Tm} {body : List Stm} {db : PyData} {es : List PyData} : RowD db es → StDs es body → StD (.tuple [.str "same", dTm a, dTm b, db]) (.same a b body)
  | scan {v t : Str} {body : List Stm} {db : PyData} {es : List PyData} : RowD db es → StDs es body → StD (.tuple [.str "scan", .str v, .str t, db]) (.scan v t body)
  | run {v t f : Str} {body : List Stm} {db : PyData} {es : List PyData} : RowD db es → StDs es body → StD (.tuple [.str "run", .str v, .str t, .str f, db]) (.run v t f body)
  | seek {v t f : Str} {a : Tm} {body : List Stm} {db : PyData} {es : List PyData} : RowD db es → StDs es body → StD (.tuple [.str "seek", .str v, .str t, .str f, dTm a, db]) (.seek v t f a body)
  | each {v b : Str} {body : List Stm} {db : PyData} {es : List PyData} : RowD db es → StDs es body → StD (.tuple [.str "each", .str v, .str b, db]) (.each v b body)
  | rise {v b k : Str} {body : List Stm} {db : PyData} {es : List PyData} : RowD db es → StDs es body → StD (.tuple [.str "rise", .str v, .str b, .str k, db]) (.rise v b k body)
  | look {v b : Str} {ts : List Tm} {body : List Stm} {dk db : PyData} {es : List PyData} : RowD dk (ts.map dTm) → RowD db es → StDs es body → StD (.tuple [.str "look", .str v, .str b, dk, db]) (.look v b ts body)
inductive StDs : List PyData → List Stm → Prop
  | nil : StDs [] []
  | cons {d : PyData} {s : Stm} {ds : List PyData} {ss : List Stm} : StD d s → StDs ds ss → StDs (d :: ds) (s :: ss)
end

theorem StDs.len : ∀ {ds : List PyData} {ss : List Stm}, StDs ds ss → ds.length = ss.length
  | _, _, .nil => rfl
  | _, _, .cons _ h => congrArg (· + 1) h.len
theorem StDs.get : ∀ {ds : List PyData} {ss : List Stm}, StDs ds ss → ∀ {i : Nat} {s : Stm}, ss[i]? = some s → ∃ d, ds[i]? = some d ∧ StD d s
  | _, _, .cons a h, 0, b, e => by cases e; exact ⟨_, rfl, a⟩
  | _, _, .cons a h, i + 1, b, e => h.get (i := i) e
/-! ### what stands around, what the checker knows -/
abbrev Ent := Bool × List Str × List Str
abbrev Ar := List (Str × Ent)
def lkA {α : Type} (l : List (Str × α)) (s : Str) : Option α := (l.find? fun p => decide (p.1 = s)).map (·.2)
structure Cs where
  pu : List (Str × List Nat)
  nm : List Str
  seen : Nat
structure CEnv where
  tabs : List (Str × List Str)
  blks : List (Str × (List Str × List Str))
def rdOk (ar : Ar) (st : Bool) (p : Fac) : Bool := match lkA ar p.1 with
  | some (_, fs, ss) => decide (p.2 ∈ fs) || (st && decide (p.2 ∈ ss))
  | none => false
def TmOk (ar : Ar) : Tm → Prop
  | .val i => InV i
  | .of v f => rdOk ar false (v, f) = true
def PrOk (ar : Ar) (p : Prd) : Prop := p.1 ≠ 0 ∧ -1000 ≤ p.1 ∧ p.1 ≤ 1000 ∧ p.2.length ≤ 3 ∧ (∀ f ∈ p.2, rdOk ar true f = true) ∧ ∀ x ∈ ar, x.2.1 = true → ∃ f ∈ p.2, f.1 = x.1 ∧ f.2 ∈ x.2.2.2
def putA {α : Type} (l : List (Str × α)) (s : Str) (a : α) : List (Str × α) := if (l.any fun p => decide (p.1 = s)) = true then l.map (fun p => if p.1 = s then (p.1, a) else p) else l ++ [(s, a)]
def PutOk (E : CEnv) (cs : Cs) (top : Nat) (ar : Ar) (b : Str) (ts : List Tm) (adds : List (List Prd)) : Prop := ∃ ks ss, lkA E.blks b = some (ks, ss) ∧ b ∉ cs.nm ∧ ts.length = ks.length ∧ (∀ t ∈ ts, TmOk ar t) ∧ adds.length = ss.length ∧ (∀ ps ∈ adds, ps.length ≤ 4 ∧ ∀ p ∈ ps, PrOk ar p) ∧ top ∉ (lkA cs.pu b).getD []
def Cs.put (cs : Cs) (b : Str) (top : Nat) : Cs := { cs with pu := putA cs.pu b ((lkA cs.pu b).getD [] ++ [top]) }
def Cs.see (cs : Cs) : Cs := { cs with seen := cs.seen + 1 }
def EntOk (E : CEnv) (cs : Cs) (top : Nat) (b : Str) (ks ss : List Str) : Prop := lkA E.blks b = some (ks, ss) ∧ ∃ t, lkA cs.pu b = some [t] ∧ t ≠ top
def BodyOk (body : List Stm) : Prop := 1 ≤ body.length ∧ body.length ≤ 8
mutual
inductive Ck (E : CEnv) (top : Nat) : Nat → Nat → Ar → Cs → Stm → Cs → Prop
  | put {n k : Nat} {ar : Ar} {cs : Cs} {b : Str} {ts : List Tm} {adds : List (List Prd)} : k ≤ 8 → cs.seen < 40 → PutOk E cs.see top ar b ts adds → Ck E top n k ar cs (.put b ts adds) (cs.see.put b top)
  | same {n k : Nat} {ar : Ar} {cs cs' : Cs} {a b : Tm} {body : List Stm} : k ≤ 8 → cs.seen < 40 → BodyOk body → TmOk ar a → TmOk ar b → CkL E top n (k + 1) ar cs.see body cs' → Ck E top (n + 1) k ar cs (.same a b body) cs'
  | scan {n k : Nat} {ar : Ar} {cs cs' : Cs} {v t : Str} {fs : List Str} {body : List Stm} : k ≤ 8 → cs.seen < 40 → BodyOk body → IsNm v → lkA ar v = none → lkA E.tabs t = some fs → CkL E top n (k + 1) (ar ++ [(v, false, fs, [])]) cs.see body cs' → Ck E top (n + 1) k ar cs (.scan v t body) cs'
  | run {n k : Nat} {ar : Ar} {cs cs' : Cs} {v t f : Str} {fs : List Str} {body : List Stm} : k ≤ 8 → cs.seen < 40 → BodyOk body → IsNm v → lkA ar v = none → lkA E.tabs t = some fs → f ∈ fs → CkL E top n (k + 1) (ar ++ [(v, false, fs, [])]) cs.see body cs' → Ck E top (n + 1) k ar cs (.run v t f body) cs'
  | seek {n k : Nat} {ar : Ar} {cs cs' : Cs} {v t f : Str} {a : Tm} {fs : List Str} {body : List Stm} : k ≤ 8 → cs.seen < 40 → BodyOk body → IsNm v → lkA ar v = none → lkA E.tabs t = some fs → f ∈ fs → TmOk ar a → CkL E top n (k + 1) (ar ++ [(v, false, fs, [])]) cs.see body cs' → Ck E top (n + 1) k ar cs (.seek v t f a body) cs'
  | each {n k : Nat} {ar : Ar} {cs cs' : Cs} {v b : Str} {ks ss : List Str} {body : List Stm} : k ≤ 8 → cs.seen < 40 → BodyOk body → IsNm v → lkA ar v = none → EntOk E cs top b ks ss → CkL E top n (k + 1) (ar ++ [(v, true, ks, ss)]) { cs.see with nm := cs.nm ++ [b] } body cs' → Ck E top (n + 1) k ar cs (.each v b body) cs'
  | rise {n k : Nat} {ar : Ar} {cs cs' : Cs} {v b f : Str} {ks ss : List Str} {body : List Stm} : k ≤ 8 → cs.seen < 40 → BodyOk body → IsNm v → lkA ar v = none → EntOk E cs top b ks ss → f ∈ ks → CkL E top n (k + 1) (ar ++ [(v, true, ks, ss)]) { cs.see with nm := cs.nm ++ [b] } body cs' → Ck E top (n + 1) k ar cs (.rise v b f body) cs'
  | look {n k : Nat} {ar : Ar} {cs cs' : Cs} {v b : Str} {ts : List Tm} {ks ss : List Str} {body : List Stm} : k ≤ 8 → cs.seen < 40 → BodyOk body → IsNm v → lkA ar v = none → EntOk E cs top b ks ss → ts.length = ks.length → (∀ t ∈ ts, TmOk ar t) → CkL E top n (k + 1) (ar ++ [(v, true, ks, ss)]) { cs.see with nm := cs.nm ++ [b] } body cs' → Ck E top (n + 1) k ar cs (.look v b ts body) cs'
inductive CkL (E : CEnv) (top : Nat) : Nat → Nat → Ar → Cs → List Stm → Cs → Prop
  | nil {n k : Nat} {ar : Ar} {cs : Cs} : CkL E top n k ar cs [] cs
  | cons {n k : Nat} {ar : Ar} {cs cs1 cs2 : Cs} {s : Stm} {ss : List Stm} : Ck E top n k ar cs s cs1 → CkL E top n k ar cs1 ss cs2 → CkL E top n k ar cs (s :: ss) cs2
end

/-! ### dicts from names -/
inductive KA {α : Type} (R : V → α → Prop) : List (Key × V) → List (Str × α) → Prop
  | nil : KA R [] []
  | cons {s : Str} {v : V} {a : α} {kvs : List (Key × V)} {l : List (Str × α)} : R v a → KA R kvs l → KA R ((.inr s, v) :: kvs) ((s, a) :: l)
section
variable {α : Type} {R R' : V → α → Prop}
theorem lkA_cons (p : Str × α) (l : List (Str × α)) (s : Str) : lkA (p :: l) s = if p.1 = s then some p.2 else lkA l s := by
  unfold lkA
  by_cases h : p.1 = s
  · rw [List.find?_cons_of_pos (by simpa using h), if_pos h]; rfl
  · rw [List.find?_cons_of_neg (by simpa using h), if_neg h]
theorem valV_cons' (p : Key × V) (kvs : List (Key × V)) (k : Key) : valV (p :: kvs) k = if p.1 = k then some p.2 else valV kvs k := by
  unfold valV
  by_cases h : p.1 = k
  · rw [List.find?_cons_of_pos (by simpa using h), if_pos h]; rfl
  · rw [List.find?_cons_of_neg (by simpa using h), if_neg h]
theorem KA.val (s : Str) : ∀ {kvs : List (Key × V)} {l : List (Str × α)}, KA R kvs l → (lkA l s = none ∧ valV kvs (.inr s) = none) ∨ ∃ v a, lkA l s = some a ∧ valV kvs (.inr s) = some v ∧ R v a
  | _, _, .nil => .inl ⟨rfl, rfl⟩
  | _, _, @KA.cons _ _ t v a kvs l r h => by
    rw [lkA_cons, valV_cons']
    by_cases e : t = s
    · rw [if_pos e, if_pos (congrArg Sum.inr e)]
      exact .inr ⟨v, a, rfl, rfl, r⟩
    · rw [if_neg e, if_neg (fun z => e (Sum.inr.inj z))]
      exact KA.val s h
theorem KA.some_ {s : Str} {kvs : List (Key × V)} {l : List (Str × α)} {a : α} (h : KA R kvs l) (e : lkA l s = some a) : ∃ v, valV kvs (.inr s) = some v ∧ R v a := by
  rcases h.val s with ⟨e', _⟩ | ⟨v, a', e1, e2, r⟩
  · rw [e] at e'; cases e'
  · rw [e] at e1; cases e1; exact ⟨v, e2, r⟩
theorem KA.none_ {s : Str} {kvs : List (Key × V)} {l : List (Str × α)} (h : KA R kvs l) (e : lkA l s = none) : valV kvs (.inr s) = none := by
  rcases h.val s with ⟨_, e'⟩ | ⟨v, a', e1, e2, r⟩
  · exact e'
  · rw [e] at e1; cases e1
theorem KA.imp (i : ∀ v a, R v a → R' v a) : ∀ {kvs : List (Key × V)} {l : List (Str × α)}, KA R kvs l → KA R' kvs l
  | _, _, .nil => .nil
  | _, _, .cons r h => .cons (i _ _ r) (h.imp i)
theorem KA.snoc {s : Str} {v : V} {a : α} (r : R v a) : ∀ {kvs : List (Key × V)} {l : List (Str × α)}, KA R kvs l → KA R (kvs ++ [(.inr s, v)]) (l ++ [(s, a)])
  | _, _, .nil => .cons r .nil
  | _, _, .cons x h => .cons x (h.snoc r)
theorem KA.len : ∀ {kvs : List (Key × V)} {l : List (Str × α)}, KA R kvs l → kvs.length = l.length
  | _, _, .nil => rfl
  | _, _, .cons _ h => congrArg (· + 1) h.len
theorem KA.get : ∀ {kvs : List (Key × V)} {l : List (Str × α)}, KA R kvs l → ∀ {i : Nat} {k : Key} {v : V}, kvs[i]? = some (k, v) → ∃ s a, k = .inr s ∧ l[i]? = some (s, a) ∧ R v a
  | _, _, .cons r h, 0, k, v, e => by cases e; exact ⟨_, _, rfl, rfl, r⟩
  | _, _, .cons r h, i + 1, k, v, e => h.get (i := i) e
theorem KA.any (s : Str) : ∀ {kvs : List (Key × V)} {l : List (Str × α)}, KA R kvs l → (kvs.any fun kv => decide (kv.1 = (.inr s : Key))) = (l.any fun p => decide (p.1 = s))
  | _, _, .nil => rfl
  | _, _, @KA.cons _ _ t v a kvs l r h => by
    rw [List.any_cons, List.any_cons, KA.any s h]
    congr 1
    by_cases e : t = s
    · rw [decide_eq_true (show (Sum.inr t : Key) = .inr s from congrArg Sum.inr e), decide_eq_true e]
    · rw [decide_eq_false (fun z : (Sum.inr t : Key) = .inr s => e (Sum.inr.inj z)), decide_eq_false e]
theorem KA.upd {s : Str} {v : V} {a : α} (r : R v a) : ∀ {kvs : List (Key × V)} {l : List (Str × α)}, KA R kvs l → KA R (kvs.map fun kv => if kv.1 = .inr s then (kv.1, v) else kv) (l.map fun p => if p.1 = s then (p.1, a) else p)
  | _, _, .nil => .nil
  | _, _, @KA.cons _ _ t w b kvs l x h => by
    rw [List.map_cons, List.map_cons]
    by_cases e : t = s
    · rw [if_pos (show (Sum.inr t : Key) = .inr s from congrArg Sum.inr e), if_pos e]
      exact .cons r (h.upd r)
    · rw [if_neg (fun z : (Sum.inr t : Key) = .inr s => e (Sum.inr.inj z)), if_neg e]
      exact .cons x (h.upd r)
theorem KA.put {s : Str} {v : V} {a : α} (r : R v a) {kvs : List (Key × V)} {l : List (Str × α)} (h : KA R kvs l) : KA R (putK kvs (.inr s) v) (putA l s a) := by
  unfold putK putA
  rw [h.any s]
  split
  · exact h.upd r
  · exact h.snoc r
end
def TabV (H : Hp) (v : V) (fs : List Str) : Prop := ∃ a, v = .ref a ∧ H a = some (.tup (fs.map V.str))
def BlkV (H : Hp) (v : V) (b : List Str × List Str) : Prop := ∃ a k s, v = .ref a ∧ H a = some (.tup [.ref k, .ref s]) ∧ H k = some (.tup (b.1.map V.str)) ∧ H s = some (.tup (b.2.map V.str))
def EntV (H : Hp) (v : V) (e : Ent) : Prop := ∃ a f s, v = .ref a ∧ H a = some (.tup [.bl e.1, .ref f, .ref s]) ∧ H f = some (.tup (e.2.1.map V.str)) ∧ H s = some (.tup (e.2.2.map V.str))
theorem TabV.kp {ms : List Addr} {H H' : Hp} {v : V} {fs : List Str} (k : Kp ms H H') (h : TabV H v fs) : TabV H' v fs := let ⟨a, e, h⟩ := h; ⟨a, e, k.tp _ _ h⟩
theorem BlkV.kp {ms : List Addr} {H H' : Hp} {v : V} {b : List Str × List Str} (k : Kp ms H H') (h : BlkV H v b) : BlkV H' v b := let ⟨a, x, y, e, h1, h2, h3⟩ := h; ⟨a, x, y, e, k.tp _ _ h1, k.tp _ _ h2, k.tp _ _ h3⟩
theorem EntV.kp {ms : List Addr} {H H' : Hp} {v : V} {b : Ent} (k : Kp ms H H') (h : EntV H v b) : EntV H' v b := let ⟨a, x, y, e, h1, h2, h3⟩ := h; ⟨a, x, y, e, k.tp _ _ h1, k.tp _ _ h2, k.tp _ _ h3⟩
def ArAt (H : Hp) (D : Addr) (ar : Ar) : Prop := ∃ kvs, H D = some (.dK kvs) ∧ KA (EntV H) kvs ar
theorem ArAt.kp {ms : List Addr} {H H' : Hp} {D : Addr} {ar : Ar} (h : ArAt H D ar) (k : Kp ms H H') (hD : D ∉ ms) : ArAt H' D ar := let ⟨kvs, a, b⟩ := h; ⟨kvs, k.at_ _ _ a hD, b.imp fun _ _ => EntV.kp k⟩
theorem Dt.tupI {S : Addr → Prop} {q : Bool} {H : Hp} {n : Nat} {v : V} {ds : List PyData} (h : Dt S q H n v (.tuple ds)) : ∃ a m xs, v = .ref a ∧ n = m + 1 ∧ H a = some (.tup xs) ∧ DtAll S q H m xs ds := by
  cases h with
  | tup r l a => exact ⟨_, _, _, rfl, rfl, r, a⟩
theorem Dt.strI {S : Addr → Prop} {q : Bool} {H : Hp} {n : Nat} {v : V} {s : Str} (h : Dt S q H n v (.str s)) : v = .str s ∧ s.length ≤ 1000000 := by
  cases h with
  | str _ l => exact ⟨rfl, l⟩
theorem Dt.intI {S : Addr → Prop} {q : Bool} {H : Hp} {n : Nat} {v : V} {i : Int} (h : Dt S q H n v (.int i)) : v = .int i := by
  cases h with
  | int _ => rfl
theorem DtAll.consI {S : Addr → Prop} {q : Bool} {H : Hp} {n : Nat} {vs : List V} {d : PyData} {ds : List PyData} (h : DtAll S q H n vs (d :: ds)) : ∃ v ws, vs = v :: ws ∧ Dt S q H n v d ∧ DtAll S q H n ws ds := by
  cases h with
  | cons a b => exact ⟨_, _, rfl, a, b⟩
theorem DtAll.nilI {S : Addr → Prop} {q : Bool} {H : Hp} {n : Nat} {vs : List V} (h : DtAll S q H n vs []) : vs = [] := by
  cases h with
  | nil => rfl
theorem Dt.rdI {S : Addr → Prop} {q : Bool} {H : Hp} {n : Nat} {v : V} {p : Fac} (h : Dt S q H n v (dRd p)) : ∃ a, v = .ref a ∧ H a = some (.tup [.str "of", .str p.1, .str p.2]) ∧ p.1.length ≤ 1000000 ∧ p.2.length ≤ 1000000 := by
  obtain ⟨a, m, xs, rfl, rfl, ha, g0⟩ := Dt.tupI h
  obtain ⟨v1, w1, rfl, h1, g1⟩ := g0.consI
  obtain ⟨v2, w2, rfl, h2, g2⟩ := g1.consI
  obtain ⟨v3, w3, rfl, h3, g3⟩ := g2.consI
  obtain ⟨rfl, _⟩ := h1.strI
  obtain ⟨rfl, l2⟩ := h2.strI
  obtain ⟨rfl, l3⟩ := h3.strI
  have e := g3.nilI
  subst e
  exact ⟨a, rfl, ha, l2, l3⟩
theorem Dt.rowI {S : Addr → Prop} {q : Bool} {H : Hp} {n : Nat} {x : V} {d : PyData} {es : List PyData} (h : Dt S q H n x d) (r : RowD d es) : ∃ m p xs, x = .ref p ∧ n = m + 1 ∧ RwAt H p xs ∧ xs.length ≤ 1000000 ∧ S p ∧ DtAll S q H m xs es := by
  rcases r with rfl | rfl
  · cases h with
    | lst rx lx ax => exact ⟨_, _, _, rfl, rfl, .inl rx, lx.1, lx.2, ax⟩
  · cases h with
    | tup rx lx ax => exact ⟨_, _, _, rfl, rfl, .inr rx, lx.1, lx.2, ax⟩
theorem isRow_of {d : PyData} {es : List PyData} (r : RowD d es) : isRowD d = true := by rcases r with rfl | rfl <;> rfl
end Fm

namespace Fm
open PySem PySem.Spec PyProof.Rows L2
/-! ### bag and pick -/
def spBag (K : PySem.W.Frag) : Sp := fun vs H Q _ => ∃ (a : Addr) (ns : List Int), vs = [.ref a] ∧ SqL K H a (ns.map V.int) ∧
  ∀ b c H', Kp [] H H' → H b = none → H c = none → Bag H' b c → Q (.ref b) H'
def spPick : Sp := fun vs H Q _ => ∃ (b c : Addr) (many : Int), vs = [.ref b, .int many] ∧ Bag H b c ∧ 0 < many ∧ many < 1073741824 ∧
  ∀ (r : Int) (H' : Hp), 0 ≤ r → r < many → Bag H' b c → Kp [b] H H' → Q (.int r) H'
section
variable {P : Program} {w : World} {K : PySem.W.Frag} {mg : Str → Option Value} {base : Heap}
theorem ok_bag (B : Bi mg) (D : Dfn K mg "_law_bag" s__law_bag ["_law_script"]) : Has P w K mg base CX0 "_law_bag" ["_law_script"] 1 (spBag K) := by
  refine D.has sc__law_bag (fun vs H Q E h => ?_) (fun f cdv A outer s H vs Q E hr h => ?_)
  · obtain ⟨a, ns, rfl, _⟩ := h; rfl
  · obtain ⟨a, ns, rfl, hS, k⟩ := h
    refine ⟨_, pss_one (ps_ret (pe_lst (pa_cons (pe_callTy call_list_of (by rfl) B.list (by decide +kernel) (pa_cons (pe_slice sl_list (pv 0) po_none (po_some pe_int)) pa_nil)) (pa_cons pe_int (pa_cons pe_int (pa_cons pe_int (pa_cons pe_int (pa_cons pe_int pa_nil)))))))), ?_⟩
    refine ⟨_, rfl, 63, rfl, a, _, rfl, hS, fun p np => ?_⟩
    refine ⟨p, _, rfl, .inl (SqL.of upd_same), fun c nc => ?_⟩
    refine ⟨by show 6 ≤ sizeLine; decide, fun b nb => ?_⟩
    obtain ⟨cs, e, hl⟩ : ∃ cs : List Int, cutV (ns.map V.int) none (some 63) = cs.map V.int ∧ cs.length ≤ 63 := by
      refine ⟨ns.take (min 63 ns.length), ?_, ?_⟩
      · have e1 : HT.sIx (ns.map V.int).length (ns.map V.int).length (some 63) = min 63 (ns.map V.int).length := HT.sIx_nat _ _ 63
        unfold cutV
        rw [e1, HT.sIx_none, List.drop_zero, Nat.sub_zero, List.length_map, List.map_take]
      · rw [List.length_take]; omega
    have n1 : H c = none := by
      have := nc
      by_cases z : c = p
      · rw [z]; exact np
      · rw [upd_ne z] at nc; exact nc
    have cb : c ≠ b := fun z => by rw [← z, upd_same] at nb; cases nb
    refine k b c _ (((Kp.new np).snoc nc).snoc nb) ?_ n1 ⟨⟨0, 0, 0, 0, 0, upd_same, by decide, by decide⟩, ⟨cs, ?_, hl⟩⟩
    · by_cases z : b = c
      · rw [z]; exact n1
      · rw [upd_ne z] at nb
        by_cases y : b = p
        · rw [y]; exact np
        · rw [upd_ne y] at nb; exact nb
    · rw [upd_ne cb, upd_same, e]
theorem ok_pick (B : Bi mg) (D : Dfn K mg "_law_pick" s__law_pick ["_law_bag_here", "_law_many"]) : Has P w K mg base CX0 "_law_pick" ["_law_bag_here", "_law_many"] 1 spPick := by
  refine D.has sc__law_pick (fun vs H Q E h => ?_) (fun f cdv A outer s H vs Q E hr h => ?_)
  · obtain ⟨b, c, m, rfl, _⟩ := h; rfl
  · obtain ⟨b, c, many, rfl, BG, m0, m1, k⟩ := h
    obtain ⟨⟨i, z, m, n, q, hb, hi, hz⟩, ⟨cs, hc, hl⟩⟩ := id BG
    have ncb := BG.ne
    have hu := hu_of hr
    refine ⟨_, (pss_cons (ps_asg (pe_op op_add (pe_ix ix_list (pv 0) pe_int (fun _ _ => rfl)) pe_int) (pg_sub (pv 0) pe_int set_list))
  (C8.pss_cut (ps_if (PW.pt (pw_and (pt_cmpR op_eq (pe_ix ix_list (pv 0) pe_int (fun _ _ => rfl)) pe_int (nomark _)) (pw_and (pt_cmpR op_eq (pe_ix ix_list (pv 0) pe_int (fun _ _ => rfl)) pe_int (nomark _)) (pw_and1 (pt_cmpR op_lt (pe_ix ix_list (pv 0) pe_int (fun _ _ => rfl)) (pe_callB call_len (by rfl) B.len PySem.boot_len (pa_cons (pe_ix ix_list (pv 0) pe_int (fun _ _ => rfl)) pa_nil)) (nomark _))))))
  (pss_cons (ps_set (i := 2) sc__law_pick.nd rfl (by first | exact Or.inl rfl | exact Or.inr rfl) (pe_ix ix_list (pe_ix ix_list (pv 0) pe_int (fun _ _ => rfl)) (pe_ix ix_list (pv 0) pe_int (fun _ _ => rfl)) (fun _ _ => rfl)))
  (pss_cons (ps_asg (pe_op op_add (pe_ix ix_list (pv 0) pe_int (fun _ _ => rfl)) pe_int) (pg_sub (pv 0) pe_int set_list))
  (pss_one (ps_if (pt_cmpR op_ge (pv 2) (pe_op op_pow pe_int pe_int) (nomark _))
  (pss_one (ps_asg (pv 2) (pg_sub (pv 0) pe_int set_list)))
  (pss_cons (ps_asg (pe_op op_mod (pe_callTy call_int1 (by rfl) B.int (by decide +kernel) (pa_cons (pe_op op_add (pe_op op_add (pe_op op_mul (pe_ix ix_list (pv 0) pe_int (fun _ _ => rfl)) pe_int) (pv 2)) pe_int) pa_nil)) pe_int) (pg_sub (pv 0) pe_int set_list))
  (pss_one (ps_asg pe_int (pg_sub (pv 0) pe_int set_list))))))))
  pss_nil)
  (C8.pss_cut (ps_if (pt_cmpR op_gt (pe_ix ix_list (pv 0) pe_int (fun _ _ => rfl)) pe_int (nomark _))
  (pss_cons (ps_set (i := 3) sc__law_pick.nd rfl (by first | exact Or.inl rfl | exact Or.inr rfl) (pe_op op_mod (pe_callTy call_int1 (by rfl) B.int (by decide +kernel) (pa_cons (pe_ix ix_list (pv 0) pe_int (fun _ _ => rfl)) pa_nil)) (pv 1)))
  (pss_cons (ps_asg (pe_op op_fdiv (pe_ix ix_list (pv 0) pe_int (fun _ _ => rfl)) (pv 1)) (pg_sub (pv 0) pe_int set_list))
  (pss_one (ps_ret (pv 3)))))
  pss_nil)
  (pss_cons (ps_asg (pe_callB (call_max2 rfl) (by rfl) B.max (by decide +kernel) (pa_cons pe_int (pa_cons (pe_op op_sub (pe_ix ix_list (pv 0) pe_int (fun _ _ => rfl)) pe_int) pa_nil))) (pg_sub (pv 0) pe_int set_list))
  (pss_cons (ps_set (i := 4) sc__law_pick.nd rfl (by first | exact Or.inl rfl | exact Or.inr rfl) (pe_op op_mod (pe_callTy call_int1 (by rfl) B.int (by decide +kernel) (pa_cons (pe_op op_mul (pe_op op_add (pe_op op_add (pe_ix ix_list (pv 0) pe_int (fun _ _ => rfl)) (pe_op op_mul pe_int (pe_ix ix_list (pv 0) pe_int (fun _ _ => rfl)))) pe_int) pe_int) pa_nil)) pe_int))
  (pss_cons (ps_set (i := 4) sc__law_pick.nd rfl (by first | exact Or.inl rfl | exact Or.inr rfl) (pe_op op_mod (pe_callTy call_int1 (by rfl) B.int (by decide +kernel) (pa_cons (pe_op op_mul (pv 4) (pe_op op_add (pe_op op_fdiv (pv 4) pe_int) pe_int)) pa_nil)) pe_int))
  (pss_cons (ps_set (i := 4) sc__law_pick.nd rfl (by first | exact Or.inl rfl | exact Or.inr rfl) (pe_op op_mod (pe_callTy call_int1 (by rfl) B.int (by decide +kernel) (pa_cons (pe_op op_mul (pv 4) (pe_op op_add (pe_op op_fdiv (pv 4) pe_int) pe_int)) pa_nil)) pe_int))
  (pss_one (ps_ret (pe_op op_mod (pe_callTy call_int1 (by rfl) B.int (by decide +kernel) (pa_cons (pe_op op_fdiv (pv 4) pe_int) pa_nil)) (pv 1))))))))))), ?_⟩
    -- bag[4] = bag[4] + 1
    refine ⟨_, rfl, b, _, _, _, rfl, rfl, SqL.of hb, rfl, _, _, rfl, rfl, _, rfl, b, _, _, _, rfl, rfl, hb, rfl, ?_⟩
    -- the join behind the first if
    refine ⟨fun σ H' => ∃ (i z m n q : Int) (v : Option V), σ = [some (.ref b), some (.int many), v, none, none] ∧ 0 ≤ i ∧ 0 ≤ z ∧ H' = upd H b (.lst [.ref c, .int i, .int z, .int m, .int n, .int q]), ?_, ?_⟩
    · have h1 : ∀ L, (upd H b L) b = some L := fun L => upd_same
      have hcc : ∀ L, (upd H b L) c = some (.lst (cs.map V.int)) := fun L => by rw [upd_ne ncb]; exact hc
      have fin : ∀ (n : Int), ∃ (i' z' m' n' q' : Int) (v : Option V), ([some (.ref b), some (.int many), none, none, none] : L2.St) = [some (.ref b), some (.int many), v, none, none] ∧ 0 ≤ i' ∧ 0 ≤ z' ∧ upd H b (.lst [.ref c, .int i, .int z, .int m, .int n, .int q]) = upd H b (.lst [.ref c, .int i', .int z', .int m', .int n', .int q']) := fun n => ⟨i, z, m, n, q, none, rfl, hi, hz, rfl⟩
      refine ⟨_, rfl, b, _, _, _, rfl, rfl, SqL.of upd_same, rfl, rfl, _, rfl, ?_⟩
      refine ite2 (fun hz0 => ?_) (fun _ => fin _)
      refine ⟨_, rfl, b, _, _, _, rfl, rfl, SqL.of upd_same, rfl, rfl, _, rfl, ?_⟩
      refine ite2 (fun hq0 => ?_) (fun _ => fin _)
      refine ⟨_, rfl, b, _, _, _, rfl, rfl, SqL.of upd_same, rfl, _, rfl, b, _, _, _, rfl, rfl, SqL.of upd_same, rfl, _, _, rfl, .inl ⟨_, SqL.of (hcc _), rfl⟩, _, _, rfl, rfl, _, rfl, ?_⟩
      refine ite2 (fun hlt => ?_) (fun _ => fin _)
      rw [List.length_map] at hlt
      have hlt' : i < (cs.length : Int) := of_decide_eq_true hlt
      obtain ⟨y, hy⟩ : ∃ y, cs[i.toNat]? = some y := ⟨cs[i.toNat]'(by omega), List.getElem?_eq_getElem (by omega)⟩
      have hat : atI (cs.map V.int) i = some (V.int y) := by
        unfold atI ixN
        rw [List.length_map, if_pos hi, if_pos hlt']
        simp [hy]
      -- cell = bag[0][bag[1]]; bag[1] = bag[1] + 1
      refine ⟨_, rfl, b, _, _, _, rfl, rfl, SqL.of upd_same, rfl, _, rfl, b, _, _, _, rfl, rfl, SqL.of upd_same, rfl, c, _, _, _, rfl, rfl, SqL.of (hcc _), hat, ?_⟩
      refine ⟨_, rfl, b, _, _, _, rfl, rfl, SqL.of upd_same, rfl, _, _, rfl, rfl, _, rfl, b, _, _, _, rfl, rfl, upd_same, rfl, ?_⟩
      refine ⟨_, rfl, _, _, rfl, rfl, ⟨by decide, by decide, by decide⟩, _, _, rfl, rfl, _, rfl, ?_⟩
      refine ite2 (fun hbig => ?_) (fun _ => ?_)
      · refine ⟨_, rfl, _, rfl, b, _, _, _, rfl, rfl, upd_same, rfl, ?_⟩
        have hy0 : 0 ≤ y := by
          have := of_decide_eq_true hbig
          have e : (10 : Int) ^ (18 : Int).toNat = 1000000000000000000 := by decide
          rw [e] at this
          omega
        refine ⟨i + 1, y, m, n + 1, q, _, rfl, by omega, hy0, ?_⟩
        rw [upd_upd, upd_upd]
        rfl
      · refine ⟨_, rfl, b, _, _, _, rfl, rfl, SqL.of upd_same, rfl, _, _, rfl, rfl, .inr ⟨by decide, by decide⟩, _, rfl, _, _, rfl, rfl, _, _, rfl, rfl, .inl ⟨_, rfl, _, _, rfl, rfl, (by show (0 : Int) < 2147483647; decide), _, rfl, b, _, _, _, rfl, rfl, upd_same, rfl, ?_⟩⟩
        refine ⟨_, rfl, b, _, _, _, rfl, rfl, upd_same, rfl, ?_⟩
        refine ⟨i + 1, z, (m * 69621 + y + 12345) % 2147483647, n + 1, 6, _, rfl, by omega, hz, ?_⟩
        rw [upd_upd, upd_upd, upd_upd]
        rfl
    · clear hb hz hi hl
      rintro σ' H' ⟨i, z, m, n, q, v, rfl, hi, hz, rfl⟩
      have h1 : ∀ L, (upd H b L) b = some L := fun L => upd_same
      have kp : ∀ L, Kp [b] H (upd H b L) := fun L => by
        obtain ⟨_, _, _, _, _, hb, _⟩ := BG.bg
        exact Kp.updL hb (by simp)
      have bag : ∀ i z m n q : Int, 0 ≤ i → 0 ≤ z → Bag (upd H b (.lst [.ref c, .int i, .int z, .int m, .int n, .int q])) b c := fun i z m n q hi hz => by
        obtain ⟨cs, hc, hl⟩ := BG.cl
        exact ⟨⟨i, z, m, n, q, upd_same, hi, hz⟩, ⟨cs, by rw [upd_ne ncb]; exact hc, hl⟩⟩
      refine ⟨fun σ H' => σ = [some (.ref b), some (.int many), v, none, none] ∧ H' = upd H b (.lst [.ref c, .int i, .int z, .int m, .int n, .int q]), ?_, ?_⟩
      · refine ⟨_, rfl, b, _, _, _, rfl, rfl, SqL.of upd_same, rfl, _, _, rfl, rfl, _, rfl, ?_⟩
        refine ite2 (fun _ => ?_) (fun _ => ⟨rfl, rfl⟩)
        refine ⟨_, rfl, b, _, _, _, rfl, rfl, SqL.of upd_same, rfl, .inl ⟨_, rfl, _, rfl, _, _, rfl, rfl, m0, ?_⟩⟩
        refine ⟨_, rfl, b, _, _, _, rfl, rfl, SqL.of upd_same, rfl, _, rfl, _, _, rfl, rfl, ⟨m0, m1⟩, _, rfl, b, _, _, _, rfl, rfl, upd_same, rfl, ?_⟩
        refine ⟨_, rfl, ?_⟩
        rw [upd_upd]
        exact k _ _ (Int.emod_nonneg _ (by omega)) (Int.emod_lt_of_pos _ m0) (bag _ _ _ _ _ hi (Int.ediv_nonneg hz (by omega))) (kp _)
      · rintro σ' H' ⟨rfl, rfl⟩
        refine ⟨_, rfl, b, _, _, _, rfl, rfl, SqL.of upd_same, rfl, _, _, rfl, rfl, _, _, rfl, _, rfl, b, _, _, _, rfl, rfl, upd_same, rfl, ?_⟩
        rw [upd_upd]
        refine ⟨_, rfl, b, _, _, _, rfl, rfl, SqL.of upd_same, rfl, _, rfl, b, _, _, _, rfl, rfl, SqL.of upd_same, rfl, _, _, rfl, rfl, .inl ⟨by decide, by decide⟩, _, _, rfl, rfl, _, _, rfl, rfl, _, _, rfl, rfl, .inr ⟨by decide, by decide⟩, .inl ⟨_, rfl, _, _, rfl, rfl, (by show (0 : Int) < 2147483647; decide), ?_⟩⟩
        generalize hx : ((m + 7919 * n + 1) * 48271) % 2147483647 = x
        have x0 : 0 ≤ x := hx ▸ Int.emod_nonneg _ (by decide)
        have x1 : x < 2147483647 := hx ▸ Int.emod_lt_of_pos _ (by decide)
        refine ⟨_, rfl, _, rfl, _, _, rfl, rfl, ⟨by decide, by decide⟩, _, _, rfl, rfl, _, _, rfl, rfl, .inl ⟨by omega, by omega⟩, .inl ⟨_, rfl, _, _, rfl, rfl, (by show (0 : Int) < 2147483647; decide), ?_⟩⟩
        generalize hy : (x * (x / 1009 + 69621)) % 2147483647 = y
        have y0 : 0 ≤ y := hy ▸ Int.emod_nonneg _ (by decide)
        have y1 : y < 2147483647 := hy ▸ Int.emod_lt_of_pos _ (by decide)
        refine ⟨_, rfl, _, rfl, _, _, rfl, rfl, ⟨by decide, by decide⟩, _, _, rfl, rfl, _, _, rfl, rfl, .inl ⟨by omega, by omega⟩, .inl ⟨_, rfl, _, _, rfl, rfl, (by show (0 : Int) < 2147483399; decide), ?_⟩⟩
        refine ⟨_, rfl, _, _, rfl, rfl, ⟨by decide, by decide⟩, .inl ⟨_, rfl, _, rfl, _, _, rfl, rfl, m0, ?_⟩⟩
        exact k _ _ (Int.emod_nonneg _ (by omega)) (Int.emod_lt_of_pos _ m0) (bag _ _ _ _ _ hi hz) (kp _)
end
end Fm

/-! a try with several clauses, each with or without «as n» -/
namespace L2
open PySem PySem.Spec PyProof.Rows
structure Hd where
  c : Value
  i : Option Nat
  ts : Addr → Value → Option Addr → TS
def Hd.go (z : Hd) (e : Addr) (cls : Value) (d : Option Addr) : TS := fun D σ H => match z.i with
  | none => z.ts e cls d D σ H
  | some i => z.ts e cls d { nx := fun σ2 H2 => D.nx (σ2.set i none) H2, rt := D.rt, bk := fun σ2 H2 => D.bk (σ2.set i none) H2, ct := fun σ2 H2 => D.ct (σ2.set i none) H2 } (σ.set i (some (.ref e))) H
inductive Cl (X : Cx) : List ExceptHandler → List Hd → Prop
  | nil : Cl X [] []
  | bare {x : Str} {c : Value} {ts : Addr → Value → Option Addr → TS} {s1 : Stmt} {su : List Stmt} {q1 q2 : Pos} {hs : List ExceptHandler} {l : List Hd} (nm : Names X x c)
      (ok : ∀ (e : Addr) (oe : Obj) (cls : Value) (d : Option Addr) (pn : List (Addr × Obj)), Zc cls d oe → (∃ vs, oe.data = .fields vs) → PSs (X.suite e ((e, oe) :: pn)) (s1 :: su) (ts e cls d)) (r : Cl X hs l) :
      Cl X (.ExceptHandler (some (.Name x q1)) none (s1 :: su) q2 :: hs) (⟨c, none, ts⟩ :: l)
  | named {x n : Str} {i : Nat} {c : Value} {ts : Addr → Value → Option Addr → TS} {s1 : Stmt} {su : List Stmt} {q1 q2 : Pos} {hs : List ExceptHandler} {l : List Hd} (nd : X.N.Nodup) (at_ : X.N[i]? = some n) (lo : X.env.kindOf n = some .local) (nm : Names X x c)
      (ok : ∀ (e : Addr) (oe : Obj) (cls : Value) (d : Option Addr) (pn : List (Addr × Obj)), Zc cls d oe → (∃ vs, oe.data = .fields vs) → PSs (X.suite e ((e, oe) :: pn)) (s1 :: su) (ts e cls d)) (r : Cl X hs l) :
      Cl X (.ExceptHandler (some (.Name x q1)) (some n) (s1 :: su) q2 :: hs) (⟨c, some i, ts⟩ :: l)
section
variable {X : Cx} {body : List Stmt} {z₀ : ExceptHandler} {zs : List ExceptHandler} {l : List Hd} {pos : Pos} {tb : WX → TS} {Wo : WX}
end
end L2

namespace PySem.W
open PySem PySem.Calls PyProof.Rows
section
variable {prog : Program} {w : World} {A : Around} {E : Value → Shared → Prop} {s : Shared} {K : Frag} {x C f L : Addr} {h₀ : Heap} {m : Str → Option Value} {ox : Obj} {od : Option Obj} {b tb : Value}
end
end PySem.W
namespace Fm
open PySem PySem.Spec PyProof.Rows L2
/-- what the top says of a class with an own ==, the right side being of type t -/
structure EqC (K : PySem.W.Frag) (C f : Addr) : Prop where
  eq : PySem.W.findIn K (.ref C) "__eq__" = some (some (.ref f))
  fn : PySem.W.isFn K (.ref f) = true
  ne : PySem.W.findIn K (.ref C) "__ne__" = some (some (.builtin "object.__ne__"))
  ob : PySem.W.subIn K (.ref C) (.type "object") = some true
section
variable {X : Cx} {CX : CXT} {C f : Addr} {fd : FuncData} {ps : List Str} {sp : Sp} {k : Nat} {E : XK}
end
end Fm

namespace Fm
open PySem PySem.Spec PyProof.Rows L2
/-! ### tables as data: equal as Python sees them -/
section
variable {P : Program} {w : World} {K : PySem.W.Frag} {mg : Str → Option Value} {base : Heap}
end
end Fm

namespace Fm
open PySem PySem.Spec PyProof.Rows L2
/-! ### the checker: what is read, terms, products -/
theorem iteFs {c : Bool} {A B : Prop} (h : c = false) (k : B) : if c = true then A else B := by rw [h]; exact iteF k
theorem iteTs {c : Bool} {A B : Prop} (h : c = true) (k : A) : if c = true then A else B := by rw [h]; exact iteT k
theorem flat_strsQ (us : List Str) : (us.map V.str).all flatV = true := List.all_eq_true.mpr fun z hz => by
  obtain ⟨k, _, rfl⟩ := List.mem_map.mp hz
  rfl
theorem inV_strsQ (s : Str) (us : List Str) : inV (.str s) (us.map V.str) = decide (s ∈ us) := by
  unfold inV
  rw [Bool.eq_iff_iff, List.any_eq_true, decide_eq_true_iff]
  constructor
  · rintro ⟨x, hx, e⟩
    obtain ⟨j, hj, rfl⟩ := List.mem_map.mp hx
    have e : (j == s) = true := e
    rw [← eq_of_beq e]; exact hj
  · intro h
    exact ⟨_, List.mem_map.mpr ⟨s, h, rfl⟩, beq_self_eq_true s⟩
theorem str_ty {K : PySem.W.Frag} {H : Hp} {s : Str} : TyX K H (.str s) (.type "str") := .base (.str _)
theorem kb_strS : kitB "str" "str" = some true := kb_str (.str "")
structure BiQ (mg : Str → Option Value) : Prop extends Bi mg where
  any : mg "any" = none
theorem Kp.unlockM {ms : List Addr} {H H2 : Hp} {p : Addr} {kvs : List (Key × V)} {od : Obj} (hp : H p = some (.dK kvs)) (k2 : Kp ms (upd H p (.frz od (.dK kvs))) H2) : Kp ms H (upd H2 p (.dK kvs)) :=
  ⟨fun a o e n => by
    by_cases z : a = p
    · rw [z, upd_same]; rw [z, hp] at e; exact e
    · rw [upd_ne z]; exact k2.at_ a o (by rw [upd_ne z]; exact e) n, fun a xs e => by
    by_cases z : a = p
    · rw [z, hp] at e; cases e
    · rw [upd_ne z]; exact k2.tp a xs (by rw [upd_ne z]; exact e)⟩
/-! ### loops over a row, list or tuple -/
theorem for_rows {K : PySem.W.Frag} {te : TE} {g : TG} {tb : TS} {D : Ends} {σ : L2.St} {H : Hp} {p : Addr} {xs : List V} (hte : ∀ Q : V → Hp → Prop, Q (.ref p) H → te σ H Q) (hr : RwAt H p xs) (Pv : Nat → L2.St → Hp → Prop) (h0 : Pv 0 σ H) (hG : ∀ i σ H', Pv i σ H' → ∃ ms, Kp ms H H' ∧ p ∉ ms)
    (hs : ∀ i x σ H1, Pv i σ H1 → xs[i]? = some x → g x σ H1 fun σ2 H2 => tb { D with nx := Pv (i + 1), ct := Pv (i + 1), bk := D.nx } σ2 H2) (hd : ∀ σ H, Pv xs.length σ H → D.nx σ H) : tFor (fun σ H R => iList K te σ H R ∨ iTup K te σ H R) g tb D σ H := by
  rcases hr with r | r
  · refine .inl (hte _ ⟨p, rfl, ⟨xs, .inl r⟩, ?_⟩)
    exact for_it (walk_list (xs := xs)) Pv h0 (fun i σ H' _ h => let ⟨ms, k, n⟩ := hG i σ H' h; .inl (k.rd n r)) (fun i x σ H1 H2 _ h hy => by
      obtain ⟨rfl, hx⟩ := hy
      exact hs i x σ _ h hx) hd
  · refine .inr (hte _ ⟨p, rfl, ⟨xs, SqT.of r⟩, ?_⟩)
    exact for_it (walk_tup (xs := xs)) Pv h0 (fun i σ H' _ h => let ⟨ms, k, n⟩ := hG i σ H' h; SqT.of (k.tp _ _ r)) (fun i x σ H1 H2 _ h hy => by
      obtain ⟨rfl, hx⟩ := hy
      exact hs i x σ _ h hx) hd
theorem for_rowsE {K : PySem.W.Frag} {ta : TA} {g : TG} {tb : TS} {D : Ends} {σ : L2.St} {H : Hp} {p : Addr} {xs : List V} (hte : ∀ Q : List V → Hp → Prop, Q [.ref p] H → ta σ H Q) (hr : RwAt H p xs) (Pv : Nat → L2.St → Hp → Prop) (h0 : Pv 0 σ H) (hG : ∀ i σ H', Pv i σ H' → ∃ ms, Kp ms H H' ∧ p ∉ ms)
    (hs : ∀ (i : Nat) x σ H1 T, Pv i σ H1 → xs[i]? = some x → H1 T = none → g (.ref T) σ (upd H1 T (.tup [.int (i : Int), x])) fun σ2 H2 => tb { D with nx := Pv (i + 1), ct := Pv (i + 1), bk := D.nx } σ2 H2) (hd : ∀ σ H, Pv xs.length σ H → D.nx σ H) : tFor (fun σ H R => iEnum K ta σ H R ∨ iEnumT K ta σ H R) g tb D σ H := by
  rcases hr with r | r
  · refine .inl (hte _ ⟨p, xs, rfl, .inl r, ?_⟩)
    exact for_it (walk_enum (xs := xs)) Pv h0 (fun i σ H' _ h => let ⟨ms, k, n⟩ := hG i σ H' h; .inl (k.rd n r)) (fun i x σ H1 H2 _ h hy => by
      obtain ⟨T, a, b, rfl, hT, rfl, e, hx⟩ := hy
      cases e
      exact hs i _ σ _ T h hx hT) hd
  · refine .inr (hte _ ⟨p, xs, rfl, SqT.of r, ?_⟩)
    exact for_it (walk_enumT (xs := xs)) Pv h0 (fun i σ H' _ h => let ⟨ms, k, n⟩ := hG i σ H' h; SqT.of (k.tp _ _ r)) (fun i x σ H1 H2 _ h hy => by
      obtain ⟨T, a, b, rfl, hT, rfl, e, hx⟩ := hy
      cases e
      exact hs i _ σ _ T h hx hT) hd
theorem lc_rows {K : PySem.W.Frag} {ti : TE} {g : TG} {tt : TT} {te : TE} {vs : List Nat} {σ : L2.St} {H : Hp} {Q : VK} {p : Addr} {xs : List V} (hti : ∀ Q : V → Hp → Prop, Q (.ref p) H → ti σ H Q) (hr : RwAt H p xs) (Pv : Addr → Nat → Hp → Prop) (h0 : ∀ D, H D = none → Pv D 0 (upd H D (.lst []))) (hG : ∀ D i H', H D = none → Pv D i H' → ∃ ms, Kp ms H H' ∧ p ∉ ms)
    (hs : ∀ D i x H1, H D = none → Pv D i H1 → xs[i]? = some x → g x (wipe σ vs) H1 fun σ2 H2 => wipe σ2 vs = wipe σ vs ∧ tt σ2 H2 fun b H3 => if b = true then te σ2 H3 fun y H4 => ∃ acc, H4 D = some (.lst acc) ∧ acc.length < sizeLine ∧ Pv D (i + 1) (upd H4 D (.lst (acc ++ [y]))) else Pv D (i + 1) H3) (hd : ∀ D H', H D = none → Pv D xs.length H' → Q (.ref D) H') : tLc (fun σ H R => iList K ti σ H R ∨ iTup K ti σ H R) g tt te vs σ H Q := by
  rcases hr with r | r
  · refine .inl (hti _ ⟨p, rfl, ⟨xs, .inl r⟩, fun D hD => ?_⟩)
    exact lc_it (walk_list (xs := xs)) (Pv D) (h0 D hD) (fun i H' _ h => let ⟨ms, k, n⟩ := hG D i H' hD h; .inl (k.rd n r)) (fun i x H1 H2 _ h hy => by
      obtain ⟨rfl, hx⟩ := hy
      exact hs D i x _ hD h hx) (fun H' h => hd D H' hD h)
  · refine .inr (hti _ ⟨p, rfl, ⟨xs, SqT.of r⟩, fun D hD => ?_⟩)
    exact lc_it (walk_tup (xs := xs)) (Pv D) (h0 D hD) (fun i H' _ h => let ⟨ms, k, n⟩ := hG D i H' hD h; SqT.of (k.tp _ _ r)) (fun i x H1 H2 _ h hy => by
      obtain ⟨rfl, hx⟩ := hy
      exact hs D i x _ hD h hx) (fun H' h => hd D H' hD h)
def spRead : Sp := fun vs H Q _ => ∃ (q a D : Addr) (st : Bool) (v f : Str) (ar : Ar), vs = [.ref q, .ref a, .ref D, .bl st] ∧ H a = some (.tup [.str "of", .str v, .str f]) ∧ ArAt H D ar ∧ rdOk ar st (v, f) = true ∧ Q (.bl true) H
def CkO (CC : Addr) (H : Hp) (q : Addr) : Prop := ∃ (dx dt db dp ln : Addr) (n : Int), H q = some (.ins CC dx [("tables", .ref dt), ("blocks", .ref db), ("putters", .ref dp), ("named", .ref ln), ("seen", .int n)])
theorem CkO.kp {CC q : Addr} {H H' : Hp} (h : CkO CC H q) (k : Kp [] H H') : CkO CC H' q := let ⟨a, b, c, d, e, f, h⟩ := h; ⟨a, b, c, d, e, f, k.at_ _ _ h (fun z => nomatch z)⟩
def spTerm (CC : Addr) : Sp := fun vs H Q _ => ∃ (q D : Addr) (x : V) (tm : Tm) (ar : Ar) (S : Addr → Prop) (qq : Bool) (n : Nat), vs = [.ref q, x, .ref D] ∧ CkO CC H q ∧ Dt S qq H n x (dTm tm) ∧ ArAt H D ar ∧ TmOk ar tm ∧ Q (.bl true) H
def spTerms (CC : Addr) : Sp := fun vs H Q _ => ∃ (q D : Addr) (x : V) (d : PyData) (ts : List Tm) (ar : Ar) (S : Addr → Prop) (qq : Bool) (n : Nat), vs = [.ref q, x, .int ts.length, .ref D] ∧ CkO CC H q ∧ Dt S qq H n x d ∧ RowD d (ts.map dTm) ∧ ArAt H D ar ∧ ts.length ≤ 1000 ∧ (∀ t ∈ ts, TmOk ar t) ∧ ∀ H', Kp [] H H' → Q (.bl true) H'
def spProduct (CC : Addr) : Sp := fun vs H Q _ => ∃ (q D : Addr) (x : V) (d : PyData) (pr : Prd) (ar : Ar) (S : Addr → Prop) (qq : Bool) (n : Nat), vs = [.ref q, x, .ref D] ∧ CkO CC H q ∧ Dt S qq H n x d ∧ PrD d pr ∧ ArAt H D ar ∧ PrOk ar pr ∧ ∀ H', Kp [] H H' → Q (.bl true) H'
section
variable {P : Program} {w : World} {K : PySem.W.Frag} {mg : Str → Option Value} {base : Heap}
theorem ok_is_read {f : Addr} {fd : FuncData} (B : Bi mg) (F : Fun K "is_read" "Checker.is_read" s_Checker_is_read f fd) : FnOk P w K mg base CX0 1 f fd ["self", "thing", "around", "sums_too"] spRead := by
  refine F.ok sc_Checker_is_read (fun vs H Q E h => ?_) (fun cdv A outer s H vs Q E hr h => ?_)
  · obtain ⟨q, a, D, st, v, f, ar, rfl, _⟩ := h; rfl
  · obtain ⟨q, a, D, st, v, f, ar, rfl, ha, hD, ok, k⟩ := h
    have hu := hu_of hr
    refine ⟨_, (pss_cons (ps_if (PW.pt (pw_or (pt_not (pt_val (pe_callB call_isi (by rfl) B.isinstance (by decide +kernel) (pa_cons (pv 1) (pa_cons (pe_bltn (v := .ty "tuple") (by rfl) B.tuple (by decide +kernel) rfl) pa_nil))))) (pw_or (pt_cmpR op_ne (pe_callB call_len (by rfl) B.len PySem.boot_len (pa_cons (pv 1) pa_nil)) pe_int (nomark _)) (pw_or1 (pt_not (pt_cmpR op_eq (pe_ix (r := rIxT K) ix_tup (pv 1) pe_int (fun _ _ => rfl)) pe_str (nomark _)))))))
  (pss_one (ps_ret pe_bl))
  pss_nil)
  (pss_cons (ps_if (PW.pt (pw_or (pt_not (pt_val (pe_callB call_isi (by rfl) B.isinstance (by decide +kernel) (pa_cons (pe_ix (r := rIxT K) ix_tup (pv 1) pe_int (fun _ _ => rfl)) (pa_cons (pe_bltn (v := .ty "str") (by rfl) B.str (by decide +kernel) rfl) pa_nil))))) (pw_or (pt_cmp (pc_dnotin hu (pe_ix (r := rIxT K) ix_tup (pv 1) pe_int (fun _ _ => rfl)) (pv 2)) rfl) (pw_or1 (pt_not (pt_val (pe_callB call_isi (by rfl) B.isinstance (by decide +kernel) (pa_cons (pe_ix (r := rIxT K) ix_tup (pv 1) pe_int (fun _ _ => rfl)) (pa_cons (pe_bltn (v := .ty "str") (by rfl) B.str (by decide +kernel) rfl) pa_nil)))))))))
  (pss_one (ps_ret pe_bl))
  pss_nil)
  (pss_cons (ps_asg (pe_dget hu (pv 2) (pe_ix (r := rIxT K) ix_tup (pv 1) pe_int (fun _ _ => rfl)) (fun _ _ => rfl)) (pg_tup rfl (pgs_cons (pg_name (i := 4) sc_Checker_is_read.nd rfl (by first | exact Or.inl rfl | exact Or.inr rfl)) (pgs_cons (pg_name (i := 5) sc_Checker_is_read.nd rfl (by first | exact Or.inl rfl | exact Or.inr rfl)) (pgs_cons (pg_name (i := 6) sc_Checker_is_read.nd rfl (by first | exact Or.inl rfl | exact Or.inr rfl)) pgs_nil)))))
  (pss_one (ps_ret (pe_or (pe_cmpR op_in_seq (pe_ix (r := rIxT K) ix_tup (pv 1) pe_int (fun _ _ => rfl)) (pv 5) (by rfl)) (pe_one (pe_and (pv 3) (pe_one (pe_cmpR op_in_seq (pe_ix (r := rIxT K) ix_tup (pv 1) pe_int (fun _ _ => rfl)) (pv 6) (by rfl))))))))))), ?_⟩
    have hT : SqT K H a [.str "of", .str v, .str f] := SqT.of ha
    obtain ⟨kvs, hDk, hK⟩ := hD
    have hDk : Rd H D (.dK kvs) := .inl hDk
    unfold rdOk at ok
    cases e : lkA ar v with
    | none => rw [e] at ok; cases ok
    | some en =>
      rw [e] at ok
      obtain ⟨eb, fs, ss⟩ := en
      obtain ⟨u, hu1, ea, ef, es, rfl, h1, h2, h3⟩ := hK.some_ e
      refine ⟨_, rfl, _, _, _, _, _, rfl, .ty _, .base (.tup ha), kit_ty (kb_tuple (.tuple [])), _, rfl, iteF ?_⟩
      refine ⟨_, rfl, _, _, rfl, .inr ⟨_, hT, rfl⟩, rfl, _, rfl, iteFs rfl ?_⟩
      refine ⟨_, rfl, a, _, 0, .str "of", rfl, rfl, hT, rfl, rfl, _, rfl, iteFs (by simp) ?_⟩
      refine ⟨_, rfl, a, _, 1, .str v, rfl, rfl, hT, rfl, _, _, _, _, _, rfl, .ty _, str_ty, kit_ty kb_strS, _, rfl, iteF ?_⟩
      refine ⟨_, rfl, a, _, 1, .str v, rfl, rfl, hT, rfl, _, rfl, D, _, rfl, .inl ⟨_, .inr v, hDk, rfl, rfl⟩, _, rfl, ?_⟩
      rw [hu1]
      refine iteF ⟨_, rfl, a, _, 2, .str f, rfl, rfl, hT, rfl, _, _, _, _, _, rfl, .ty _, str_ty, kit_ty kb_strS, _, rfl, iteF ?_⟩
      refine ⟨_, rfl, _, rfl, a, _, 1, .str v, rfl, rfl, hT, rfl, D, _, rfl, .inl ⟨_, .inr v, hDk, rfl, hu1.symm⟩, ?_⟩
      refine ⟨ea, _, rfl, SqT.of h1, rfl, _, _, rfl, _, _, rfl, _, _, rfl, rfl, ?_⟩
      refine ⟨_, rfl, a, _, 2, .str f, rfl, rfl, hT, rfl, _, rfl, ef, _, rfl, .inr (SqT.of h2), rfl, flat_strsQ fs, ?_⟩
      refine ⟨_, rfl, ?_⟩
      show if inV (V.str f) (fs.map V.str) = true then _ else _
      rw [inV_strsQ]
      have ok : (decide (f ∈ fs) || (st && decide (f ∈ ss))) = true := ok
      cases hf : decide (f ∈ fs) with
      | true => exact iteT k
      | false =>
        rw [hf, Bool.false_or] at ok
        cases st with
        | false => cases ok
        | true =>
          refine iteF ⟨_, rfl, _, rfl, iteT ⟨_, rfl, a, _, 2, .str f, rfl, rfl, hT, rfl, _, rfl, es, _, rfl, .inr (SqT.of h3), rfl, flat_strsQ ss, ?_⟩⟩
          show Q (.bl (inV (V.str f) (ss.map V.str))) H
          rw [inV_strsQ]
          have ok : decide (f ∈ ss) = true := ok
          rw [ok]
          exact k
theorem ok_is_term {fT fR CC : Addr} {fdT fdR : FuncData} (F : Fun K "is_term" "Checker.is_term" s_Checker_is_term fT fdT) (cl : Cls K CC) (mR : Meth K CC "is_read" fR) (GR : FnOk P w K mg base CX0 1 fR fdR ["self", "thing", "around", "sums_too"] spRead) (bR : Binds K fdR ["self", "thing", "around", "sums_too"] [])
    (G_is_value : Has P w K mg base CX0 "is_value" ["thing"] 2 spIsVal) : FnOk P w K mg base CX0 3 fT fdT ["self", "thing", "around"] (spTerm CC) := by
  refine F.ok sc_Checker_is_term (fun vs H Q E h => ?_) (fun cdv A outer s H vs Q E hr h => ?_)
  · obtain ⟨q, D, x, tm, ar, S, qq, n, rfl, _⟩ := h; rfl
  · obtain ⟨q, D, x, tm, ar, S, qq, n, rfl, hq, hx, hD, ok, k⟩ := h
    have hu := hu_of hr
    refine ⟨_, (pss_one (ps_ret (pe_or (pe_has G_is_value (hr.mono (by omega)) (pa_cons (pv 1) pa_nil)) (pe_one (pe_meth (E := E0) (pv 0) cl mR GR (hr.mono (by omega)) bR .nil pass0 (pa_cons (pv 1) (pa_cons (pv 2) (pa_cons pe_bl pa_nil)))))))), ?_⟩
    refine ⟨_, rfl, S, qq, n, x, _, rfl, hx, _, rfl, ?_⟩
    cases tm with
    | val i =>
      rw [bP_t (show VlD (dTm (.val i)) from ⟨i, rfl, ok⟩)]
      exact iteT k
    | of v f =>
      rw [bP_f (show ¬ VlD (dTm (.of v f)) from fun ⟨_, e, _⟩ => by cases e)]
      refine iteF ?_
      obtain ⟨a, rfl, ha, _⟩ := Dt.rdI (p := (v, f)) hx
      obtain ⟨dx, dt, db, dp, ln, sn, hq⟩ := hq
      exact ⟨_, rfl, q, dx, _, rfl, hq, rfl, _, rfl, _, rfl, q, a, D, false, v, f, ar, rfl, ha, hD, ok, k⟩
theorem ok_are_terms {fT fR CC : Addr} {fdT fdR : FuncData} (B : Bi mg) (F : Fun K "are_terms" "Checker.are_terms" s_Checker_are_terms fT fdT) (cl : Cls K CC) (mR : Meth K CC "is_term" fR) (GR : FnOk P w K mg base CX0 3 fR fdR ["self", "thing", "around"] (spTerm CC)) (bR : Binds K fdR ["self", "thing", "around"] [])
    (G_is_row : Has P w K mg base CX0 "is_row" ["thing"] 1 spIsRow) : FnOk P w K mg base CX0 4 fT fdT ["self", "thing", "many", "around"] (spTerms CC) := by
  refine F.ok sc_Checker_are_terms (fun vs H Q E h => ?_) (fun cdv A outer s H vs Q E hr h => ?_)
  · obtain ⟨q, D, x, d, ts, ar, S, qq, n, rfl, _⟩ := h; rfl
  · obtain ⟨q, D, x, d, ts, ar, S, qq, n, rfl, hq, hx, hr', hD, l, ok, k⟩ := h
    have hu := hu_of hr
    refine ⟨_, (pss_cons (ps_if (PW.pt (pw_or (pt_not (pt_val (pe_has G_is_row (hr.mono (by omega)) (pa_cons (pv 1) pa_nil)))) (pw_or1 (pt_cmpR op_ne (pe_callB call_len (by rfl) B.len PySem.boot_len (pa_cons (pv 1) pa_nil)) (pv 2) (nomark _)))))
  (pss_one (ps_ret pe_bl))
  pss_nil)
  (pss_cons (ps_for PassesOwn.never rfl (pi_or (pi_list (pv 1)) (pi_tup (pv 1))) (pg_name (i := 4) sc_Checker_are_terms.nd rfl (by first | exact Or.inl rfl | exact Or.inr rfl))
  (pss_one (ps_if (pt_not (pt_val (pe_meth (E := E0) (pv 0) cl mR GR (hr.mono (by omega)) bR .nil pass0 (pa_cons (pv 4) (pa_cons (pv 3) pa_nil)))))
  (pss_one (ps_ret pe_bl))
  pss_nil)))
  (pss_one (ps_ret pe_bl)))), ?_⟩
    refine ⟨_, rfl, S, qq, n, x, d, rfl, hx, fun H1 k1 => ⟨_, rfl, ?_⟩⟩
    rw [isRow_of hr']
    refine iteF ?_
    obtain ⟨m, p, xs, rfl, rfl, rx, lx, _, ax⟩ := hx.rowI hr'
    have hq1 := hq.kp k1
    have hD1 := hD.kp k1 (fun z => nomatch z)
    have ax1 := DtAll.keep k1 ax
    have rx1 := rx.keep k1
    have lxs : xs.length = ts.length := by rw [ax.len, List.length_map]
    refine ⟨_, rfl, _, _, rfl, rx1.len, _, rfl, rfl, _, rfl, iteFs (by rw [lxs]; simp) ?_⟩
    have hq2 := hq1
    obtain ⟨dx, dt, db, dp, ln, sn, hq1⟩ := hq1
    refine for_rows (te := tVar 1) (fun Q h => ⟨_, rfl, h⟩) rx1 (fun i σ H' => (∃ o, σ = [some (.ref q), some (.ref p), some (.int ts.length), some (.ref D), o]) ∧ H' = H1) ⟨⟨_, rfl⟩, rfl⟩ (fun i σ H' h => ⟨[], by rw [h.2]; exact Kp.refl _, fun z => nomatch z⟩) ?_ ?_
    · rintro i u σ H2 ⟨⟨o, rfl⟩, rfl⟩ hu1
      obtain ⟨e, he, iu⟩ := ax1.getV hu1
      rw [List.getElem?_map] at he
      cases et : ts[i]? with
      | none => rw [et] at he; cases he
      | some tm =>
        rw [et] at he
        cases he
        exact ⟨_, rfl, q, dx, _, rfl, hq1, rfl, _, rfl, _, rfl, q, D, u, tm, ar, S, qq, m, rfl, hq2, iu, hD1, ok tm (List.mem_of_getElem? et), _, rfl, iteF ⟨⟨_, rfl⟩, rfl⟩⟩
    · rintro σ H2 ⟨⟨o, rfl⟩, rfl⟩
      exact k _ k1
theorem ok_is_product {fT fR CC : Addr} {fdT fdR : FuncData} {tk : Tok} (B : BiQ mg) (F : Fun K "is_product" "Checker.is_product" s_Checker_is_product fT fdT) (cl : Cls K CC) (mR : Meth K CC "is_read" fR) (GR : FnOk P w K mg base CX0 1 fR fdR ["self", "thing", "around", "sums_too"] spRead) (bR : Binds K fdR ["self", "thing", "around", "sums_too"] [])
    (M : mg "MOST_MULTIPLE" = some (.int 1000 tk)) (G_is_row : Has P w K mg base CX0 "is_row" ["thing"] 1 spIsRow) (G_is_integer : Has P w K mg base CX0 "is_integer" ["thing"] 1 spInt) : FnOk P w K mg base CX0 3 fT fdT ["self", "thing", "around"] (spProduct CC) := by
  refine F.ok sc_Checker_is_product (fun vs H Q E h => ?_) (fun cdv A outer s H vs Q E hr h => ?_)
  · obtain ⟨q, D, x, d, pr, ar, S, qq, n, rfl, _⟩ := h; rfl
  · obtain ⟨q, D, x, d, pr, ar, S, qq, n, rfl, hq, hx, hpr, hD, ok, k⟩ := h
    have hu := hu_of hr
    refine ⟨_, (pss_cons (ps_if (PW.pt (pw_or (pt_not (pt_val (pe_callB call_isi (by rfl) B.isinstance (by decide +kernel) (pa_cons (pv 1) (pa_cons (pe_bltn (v := .ty "tuple") (by rfl) B.tuple (by decide +kernel) rfl) pa_nil))))) (pw_or (pt_cmpR op_ne (pe_callB call_len (by rfl) B.len PySem.boot_len (pa_cons (pv 1) pa_nil)) pe_int (nomark _)) (pw_or (pt_not (pt_val (pe_has G_is_row (hr.mono (by omega)) (pa_cons (pe_ix (r := rIxT K) ix_tup (pv 1) pe_int (fun _ _ => rfl)) pa_nil)))) (pw_or1 (pt_cmpR op_gt (pe_callB call_len (by rfl) B.len PySem.boot_len (pa_cons (pe_ix (r := rIxT K) ix_tup (pv 1) pe_int (fun _ _ => rfl)) pa_nil)) pe_int (nomark _)))))))
  (pss_one (ps_ret pe_bl))
  pss_nil)
  (pss_cons (ps_asg (pv 1) (pg_tup rfl (pgs_cons (pg_name (i := 3) sc_Checker_is_product.nd rfl (by first | exact Or.inl rfl | exact Or.inr rfl)) (pgs_cons (pg_name (i := 4) sc_Checker_is_product.nd rfl (by first | exact Or.inl rfl | exact Or.inr rfl)) pgs_nil))))
  (pss_cons (ps_if (PW.pt (pw_or (pt_not (pt_val (pe_has G_is_integer (hr.mono (by omega)) (pa_cons (pv 3) pa_nil)))) (pw_or (pt_cmpR op_eq (pv 3) pe_int (nomark _)) (pw_or1 (pt_not (pt_chain op_le op_le (pe_un un_neg (pe_glob (v := .int 1000) rfl M ⟨_, rfl⟩)) (pv 3) (pe_glob (v := .int 1000) rfl M ⟨_, rfl⟩)))))))
  (pss_one (ps_ret pe_bl))
  pss_nil)
  (pss_cons (ps_for PassesOwn.never rfl (pi_or (pi_list (pv 4)) (pi_tup (pv 4))) (pg_name (i := 5) sc_Checker_is_product.nd rfl (by first | exact Or.inl rfl | exact Or.inr rfl))
  (pss_one (ps_if (pt_not (pt_val (pe_meth (E := E0) (pv 0) cl mR GR (hr.mono (by omega)) bR .nil pass0 (pa_cons (pv 5) (pa_cons (pv 2) (pa_cons pe_bl pa_nil))))))
  (pss_one (ps_ret pe_bl))
  pss_nil)))
  (pss_cons (ps_lock (ps_for PassesOwn.never rfl (pi_items (pv 2)) (pg_tup rfl (pgs_cons (pg_name (i := 6) sc_Checker_is_product.nd rfl (by first | exact Or.inl rfl | exact Or.inr rfl)) (pgs_cons (pg_tup rfl (pgs_cons (pg_name (i := 7) sc_Checker_is_product.nd rfl (by first | exact Or.inl rfl | exact Or.inr rfl)) (pgs_cons (pg_name (i := 8) sc_Checker_is_product.nd rfl (by first | exact Or.inl rfl | exact Or.inr rfl)) (pgs_cons (pg_name (i := 9) sc_Checker_is_product.nd rfl (by first | exact Or.inl rfl | exact Or.inr rfl)) pgs_nil)))) pgs_nil)))
  (pss_one (ps_if (PW.pt (pw_and (pt_val (pv 7)) (pw_and1 (pt_not (pt_val (pe_callB (cr_any rfl) (by rfl) B.any (by decide +kernel) (pa_cons (pe_lc (own := [("factor", 5)]) (g := gName 5) (by rfl) sc_Checker_is_product.nd (pi_or (pi_list (pv 4)) (pi_tup (pv 4))) (blkOk_by (own := [("factor", 5)]) (N := N_Checker_is_product) (sc := defScope s_Checker_is_product) (by decide +kernel)) (fun _ _ _ _ _ => (pg_name (i := 5) sc_Checker_is_product.nd rfl (by first | exact Or.inl rfl | exact Or.inr rfl))) (fun _ _ _ _ _ => pts_nil) (fun _ _ _ _ _ => (pe_and (pe_cmpR op_eq (pe_ix (r := rIxT K) ix_tup (pv 5) pe_int (fun _ _ => rfl)) (pv 6) (nomark _)) (pe_one (pe_cmpR (r := rIn K false) op_in_seq (pe_ix (r := rIxT K) ix_tup (pv 5) pe_int (fun _ _ => rfl)) (pv 9) (by rfl)))))) pa_nil)))))))
  (pss_one (ps_ret pe_bl))
  pss_nil))))
  (pss_one (ps_ret pe_bl))))))), ?_⟩
    obtain ⟨df, rfl, hdf⟩ := hpr
    obtain ⟨a, m0, ys, rfl, rfl, ha, g0⟩ := Dt.tupI hx
    obtain ⟨v1, w1, rfl, h1, g1⟩ := g0.consI
    obtain ⟨v2, w2, rfl, h2, g2⟩ := g1.consI
    have e := g2.nilI
    subst e
    have e := h1.intI
    subst e
    obtain ⟨m, b, xs, rfl, rfl, rx, lx, _, ax⟩ := h2.rowI hdf
    have lxs : xs.length = pr.2.length := by rw [ax.len, List.length_map]
    obtain ⟨p0, p1, p2, p3, p4, p5⟩ := ok
    have hT : SqT K H a [.int pr.1, .ref b] := SqT.of ha
    refine ⟨_, rfl, _, _, _, _, _, rfl, .ty _, .base (.tup ha), kit_ty (kb_tuple (.tuple [])), _, rfl, iteF ?_⟩
    refine ⟨_, rfl, _, _, rfl, .inr ⟨_, hT, rfl⟩, rfl, _, rfl, iteFs rfl ?_⟩
    refine ⟨_, rfl, a, _, 1, .ref b, rfl, rfl, hT, rfl, S, qq, m + 1, .ref b, df, rfl, h2, fun H1 k1 => ⟨_, rfl, ?_⟩⟩
    rw [isRow_of hdf]
    refine iteF ?_
    have ha1 := k1.tp _ _ ha
    have hT1 : SqT K H1 a [.int pr.1, .ref b] := SqT.of ha1
    have rx1 := rx.keep k1
    have hq1 := hq.kp k1
    have hD1 := hD.kp k1 (fun z => nomatch z)
    have ax1 := DtAll.keep k1 ax
    refine ⟨_, rfl, a, _, 1, .ref b, rfl, rfl, hT1, rfl, _, _, rfl, rx1.len, _, _, rfl, rfl, _, rfl, iteFs (decide_eq_false (by omega)) ?_⟩
    refine ⟨_, rfl, a, _, rfl, hT1, rfl, _, _, rfl, _, _, rfl, rfl, ?_⟩
    refine ⟨_, rfl, S, qq, 0, .int pr.1, .int pr.1, rfl, .int pr.1, _, rfl, iteF ?_⟩
    refine ⟨_, rfl, rfl, _, rfl, iteFs (decide_eq_false (fun z => p0 (V.int.inj z))) ?_⟩
    refine ⟨_, rfl, _, rfl, _, _, rfl, rfl, ?_⟩
    refine ⟨_, rfl, iteTs (decide_eq_true p1) ?_⟩
    refine ⟨_, _, rfl, rfl, ?_⟩
    refine ⟨_, rfl, iteFs (by rw [decide_eq_true p2]; rfl) ?_⟩
    obtain ⟨dx, dt, db, dp, ln, sn, hqq⟩ := id hq1
    refine for_rows (te := tVar 4) (fun Q h => ⟨_, rfl, h⟩) rx1 (fun i σ H' => (∃ o, σ = [some (.ref q), some (.ref a), some (.ref D), some (.int pr.1), some (.ref b), o, none, none, none, none]) ∧ H' = H1) ⟨⟨_, rfl⟩, rfl⟩ (fun i σ H' h => ⟨[], by rw [h.2]; exact Kp.refl _, fun z => nomatch z⟩) ?_ ?_
    · rintro i u σ H2 ⟨⟨o, rfl⟩, rfl⟩ hu1
      obtain ⟨e, he, iu⟩ := ax1.getV hu1
      rw [List.getElem?_map] at he
      cases et : pr.2[i]? with
      | none => rw [et] at he; cases he
      | some fc =>
        rw [et] at he
        cases he
        obtain ⟨fa, rfl, hfa, _⟩ := iu.rdI
        exact ⟨_, rfl, q, dx, _, rfl, hqq, rfl, _, rfl, _, rfl, q, fa, D, true, fc.1, fc.2, ar, rfl, hfa, hD1, p4 fc (List.mem_of_getElem? et), _, rfl, iteF ⟨⟨_, rfl⟩, rfl⟩⟩
    · rintro σ H2 ⟨⟨o, rfl⟩, rfl⟩
      obtain ⟨kvs, hDk, KE⟩ := hD1
      have ab : b ≠ D := fun z => by
        rcases rx1 with r | r
        · rcases r with r | ⟨od, r⟩
          · rw [z, hDk] at r; cases r
          · rw [z, hDk] at r; cases r
        · rw [z, hDk] at r; cases r
      refine ⟨D, _, hDk, trivial, fun od => ?_⟩
      refine ⟨_, rfl, D, od, kvs, rfl, upd_same, ?_⟩
      refine for_it (walk_items (kvs := kvs)) (fun i σ H' => (∃ o5 o6 o7 o8 o9, σ = [some (.ref q), some (.ref a), some (.ref D), some (.int pr.1), some (.ref b), o5, o6, o7, o8, o9]) ∧ Kp [] (upd H2 D (.frz od (.dK kvs))) H') ⟨⟨_, _, _, _, _, rfl⟩, Kp.refl _⟩ (fun i σ H' _ h => h.2.at_ _ _ upd_same (fun z => nomatch z)) ?_ ?_
      · rintro i u σ H3 H4 hi ⟨⟨o5, o6, o7, o8, o9, rfl⟩, k3⟩ ⟨T, kv, vv, rfl, hT3, rfl, ek, ev⟩
        obtain ⟨⟨kk1, kk2⟩, hkk⟩ : ∃ kk, kvs[i]? = some kk := ⟨_, List.getElem?_eq_getElem hi⟩
        have ek : kvs[i]?.map (fun kv => kV kv.1) = some kv := ek
        have ev : kvs[i]?.map Prod.snd = some vv := ev
        rw [hkk] at ek ev
        cases ek
        cases ev
        obtain ⟨nm, en, e1, e2, ea, ef, es, e3, g1, g2, g3⟩ := KE.get hkk
        subst e1 e3
        have kL : Kp [D] H2 (upd H2 D (.frz od (.dK kvs))) := ⟨fun x o e n => by rw [upd_ne (fun z => n (by rw [z]; exact List.mem_singleton.mpr rfl))]; exact e, fun x xs e => by
          by_cases z : x = D
          · rw [z, hDk] at e; cases e
          · rw [upd_ne z]; exact e⟩
        have kT : Kp [] H3 (upd H3 T (.tup [.str nm, .ref ea])) := Kp.new hT3
        have kall := (kL.trans (k3.trans kT).zero)
        have g1' := kall.tp _ _ g1
        have g2' := kall.tp _ _ g2
        have g3' := kall.tp _ _ g3
        have hTT : upd H3 T (.tup [.str nm, .ref ea]) T = some (.tup [.str nm, .ref ea]) := upd_same
        have k3T := k3.trans kT
        show gTup _ _ _ _ _ (upd H3 T (.tup [.str nm, .ref ea])) _
        generalize upd H3 T (.tup [.str nm, .ref ea]) = H5 at hTT kT kall g1' g2' g3' k3T
        refine ⟨T, _, rfl, SqT.of hTT, rfl, _, _, rfl, _, _, rfl, ea, _, rfl, SqT.of g1', rfl, _, _, rfl, _, _, rfl, _, _, rfl, rfl, rfl, ?_⟩
        refine ⟨_, rfl, _, rfl, ?_⟩
        obtain ⟨eb, efs, ess⟩ := en
        cases eb with
        | false => exact iteF (iteF ⟨⟨_, _, _, _, _, rfl⟩, k3T⟩)
        | true =>
          refine iteT ?_
          have rx5 : RwAt H5 b xs := rx1.elim (fun r => .inl (kall.rd (by simpa using ab) r)) (fun r => .inr (kall.tp _ _ r))
          obtain ⟨fx, hfx, e6, e7⟩ := p5 _ (List.mem_of_getElem? e2) rfl
          dsimp only [tNot, tB, tCB, tCons]
          refine lc_rows (ti := tVar 4) ?_ rx5 (fun L j H' => H' L = some (.lst (((pr.2.take j).map fun fc : Fac => decide (fc.1 = nm) && decide (fc.2 ∈ ess)).map V.bl)) ∧ Kp [] H5 H') (fun L hL => ⟨upd_same, Kp.new hL⟩) (fun L j H' _ h => ⟨[], h.2, fun z => nomatch z⟩) (fun L j u H6 hL h6 hu1 => ?_) (fun L H6 hL h6 => ?_)
          · exact fun Q h => ⟨_, rfl, h⟩
          · obtain ⟨h6, k6⟩ := h6
            obtain ⟨e, he, iu⟩ := ax1.getV hu1
            rw [List.getElem?_map] at he
            cases et : pr.2[j]? with
            | none => rw [et] at he; cases he
            | some fc =>
              rw [et] at he
              cases he
              obtain ⟨fa, rfl, hfa, _⟩ := iu.rdI
              have hfa6 := k6.tp _ _ (kall.tp _ _ hfa)
              have hs6 := k6.tp _ _ g3'
              have j3 : j < 3 := by have := (List.getElem?_eq_some_iff.mp et).1; omega
              have fin : ∀ bb, (decide (fc.1 = nm) && decide (fc.2 ∈ ess)) = bb → ∃ acc, H6 L = some (.lst acc) ∧ acc.length < sizeLine ∧ (upd H6 L (.lst (acc ++ [.bl bb])) L = some (.lst (((pr.2.take (j + 1)).map fun fc : Fac => decide (fc.1 = nm) && decide (fc.2 ∈ ess)).map V.bl)) ∧ Kp [] H5 (upd H6 L (.lst (acc ++ [.bl bb])))) := fun bb e =>
                ⟨_, h6, by rw [List.length_map, List.length_map, List.length_take]; exact small1000 (by omega), by rw [upd_same, take_snoc et, List.map_append, List.map_append, ← e]; rfl, k6.late hL⟩
              refine ⟨rfl, _, rfl, fa, _, 1, .str fc.1, rfl, rfl, SqT.of hfa6, rfl, _, rfl, rfl, _, rfl, ?_⟩
              by_cases q1 : fc.1 = nm
              · refine iteTs (decide_eq_true (congrArg V.str q1)) ?_
                refine ⟨_, rfl, fa, _, 2, .str fc.2, rfl, rfl, SqT.of hfa6, rfl, _, rfl, es, _, rfl, .inr (SqT.of hs6), rfl, flat_strsQ ess, ?_⟩
                have := fin (decide (fc.2 ∈ ess)) (by rw [decide_eq_true q1, Bool.true_and])
                rw [← inV_strsQ fc.2 ess] at this
                exact this
              · exact iteFs (decide_eq_false fun z => q1 (V.str.inj z)) (fin false (by rw [decide_eq_false q1, Bool.false_and]))
          · obtain ⟨h6, k6⟩ := h6
            rw [lxs, List.take_length] at h6
            refine ⟨L, _, rfl, SqL.of h6, _, rfl, iteFs ?_ ⟨⟨_, _, _, _, _, rfl⟩, k3T.trans k6⟩⟩
            rw [Bool.not_eq_false', List.any_eq_true]
            exact ⟨true, List.mem_map.mpr ⟨fx, hfx, by rw [decide_eq_true e6, decide_eq_true e7]; rfl⟩, rfl⟩
      · rintro σ H3 ⟨⟨o5, o6, o7, o8, o9, rfl⟩, k3⟩
        refine ⟨k3.at_ _ _ upd_same (fun z => nomatch z), ?_⟩
        exact k _ (k1.trans (Kp.unlockM hDk k3))
end
end Fm

namespace Fm
open PySem PySem.Spec PyProof.Rows L2
/-! ### the form of a statement -/
def rEqT0 (K : PySem.W.Frag) : R2 := fun x y H Q => ∃ a b xs, x = .ref a ∧ y = .ref b ∧ SqT K H a xs ∧ SqT K H b [] ∧ xs ≠ [] ∧ Q (.bl false) H
theorem op_eqT0 {X : Cx} (hu : X.A.units < cLine) : OpR X (compareOp .Eq) (rEqT0 X.K) := by
  intro pins s σ H x y v u Q I rx ry h
  obtain ⟨a, b, xs, rfl, rfl, ha, hb, hx, q⟩ := h
  cases rx
  cases ry
  obtain ⟨its, rv, pl, hlen⟩ := I.tuple ha
  obtain ⟨its2, rv2, pl2, hlen2⟩ := I.tuple hb
  have e2 : its2 = [] := by
    have := rv2.length
    simpa using this.symm
  subst e2
  have hl := rv.length
  have n0 : its.length ≠ 0 := fun z => hx (List.eq_nil_of_length_eq_zero (by omega))
  refine PySem.SeqAt.eq_tupleAt (e := fun _ => true) pl pl2 hu (fun j h1 h2 => absurd h2 (by simp)) ?_
  refine ⟨.bl false, H, I, ?_, q⟩
  show Value.bool _ = Value.bool false
  congr 1
  simp [n0]
theorem ix_kd {X : Cx} {d : Addr} {es : Array DictEntry} {n : Nat} (D : KDict X.K X.w d es n) : IxR X (fun x y H Q => ∃ (z : Str) (u0 : Value) (v0 : V), x = .ref d ∧ y = .str z ∧ PySem.W.nsIn X.K d z = some (some u0) ∧ RelV v0 u0 ∧ Q v0 H) := by
  intro value slice pins s σ H x y v u Q I rx ry h hs
  have h0 := op_item_kd D pins s σ H x y v u Q I rx ry h
  obtain ⟨z, u0, v0, rfl, rfl, e, r, q⟩ := h
  cases rx
  exact tail_any (kd_type D I) PySem.F.slot_dict_getitem.lookup h0 hs
theorem at0 {v : V} {xs : List V} : atI (v :: xs) 0 = some v := atI_nat (k := 0) rfl
theorem atLast {v : V} {xs : List V} {y : V} (h : xs[xs.length - 1]? = some y) (n : xs ≠ []) : atI (v :: xs) (-1) = some y := by
  have l : 0 < xs.length := List.length_pos_iff.mpr n
  unfold atI ixN
  rw [if_neg (by decide), if_pos (by rw [List.length_cons]; omega)]
  show (v :: xs)[((-1 : Int) + ((v :: xs).length : Nat)).toNat]? = some y
  have e : ((-1 : Int) + ((v :: xs).length : Nat)).toNat = (xs.length - 1) + 1 := by rw [List.length_cons]; omega
  rw [e]
  exact h
/-- the table of the words at the head of the module -/
structure Parts (K : PySem.W.Frag) (w : World) (mg : Str → Option Value) (d : Addr) (es : Array DictEntry) (n : Nat) : Prop where
  g : mg "PARTS" = some (.ref d)
  kd : KDict K w d es n
  scan : ∃ tk, PySem.W.nsIn K d "scan" = some (some (.int 4 tk))
  run : ∃ tk, PySem.W.nsIn K d "run" = some (some (.int 5 tk))
  seek : ∃ tk, PySem.W.nsIn K d "seek" = some (some (.int 6 tk))
  each : ∃ tk, PySem.W.nsIn K d "each" = some (some (.int 4 tk))
  rise : ∃ tk, PySem.W.nsIn K d "rise" = some (some (.int 5 tk))
  look : ∃ tk, PySem.W.nsIn K d "look" = some (some (.int 5 tk))
  same : ∃ tk, PySem.W.nsIn K d "same" = some (some (.int 4 tk))
  put : ∃ tk, PySem.W.nsIn K d "put" = some (some (.int 4 tk))
/-- the word, the number of parts and what stands last in a statement that is right -/
inductive Word (K : PySem.W.Frag) (d : Addr) : Str → Nat → Prop
  | mk {z : Str} {k : Nat} {tk : Tok} : PySem.W.nsIn K d z = some (some (.int (k : Int) tk)) → Word K d z k
theorem StD.form {S : Addr → Prop} {qq : Bool} {H : Hp} {n : Nat} {x : V} {d : PyData} {s : Stm} (hx : Dt S qq H n x d) (h : StD d s) : ∃ a m z xs, x = .ref a ∧ n = m + 1 ∧ H a = some (.tup (.str z :: xs)) ∧ ((z = "put" ∧ xs.length = 3 ∧ ∃ b ts adds, s = .put b ts adds) ∨
    (z ≠ "put" ∧ ∃ body bd db es, xs[xs.length - 1]? = some bd ∧ Dt S qq H m bd db ∧ RowD db es ∧ StDs es body ∧ xs ≠ [] ∧
      ((∃ v t, s = .scan v t body ∧ z = "scan" ∧ xs.length = 3) ∨ (∃ v t f, s = .run v t f body ∧ z = "run" ∧ xs.length = 4) ∨ (∃ v t f a, s = .seek v t f a body ∧ z = "seek" ∧ xs.length = 5) ∨ (∃ v b, s = .each v b body ∧ z = "each" ∧ xs.length = 3) ∨ (∃ v b k, s = .rise v b k body ∧ z = "rise" ∧ xs.length = 4) ∨ (∃ v b ts, s = .look v b ts body ∧ z = "look" ∧ xs.length = 4) ∨ (∃ a b, s = .same a b body ∧ z = "same" ∧ xs.length = 3)))) := by
  cases h with
  | put r1 r2 r3 =>
    obtain ⟨a, m, xs, rfl, rfl, ha, g0⟩ := Dt.tupI hx
    obtain ⟨v1, w1, rfl, h1, g1⟩ := g0.consI
    have e := h1.strI.1
    subst e
    exact ⟨a, m, _, _, rfl, rfl, ha, .inl ⟨rfl, by rw [g1.len]; rfl, _, _, _, rfl⟩⟩
  | same r1 r2 =>
    obtain ⟨a, m, xs, rfl, rfl, ha, g0⟩ := Dt.tupI hx
    obtain ⟨v1, w1, rfl, h1, g1⟩ := g0.consI
    have e := h1.strI.1
    subst e
    obtain ⟨v2, w2, rfl, h2, g2⟩ := g1.consI
    obtain ⟨v3, w3, rfl, h3, g3⟩ := g2.consI
    obtain ⟨v4, w4, rfl, h4, g4⟩ := g3.consI
    have e := g4.nilI
    subst e
    exact ⟨a, m, _, _, rfl, rfl, ha, .inr ⟨by decide, _, _, _, _, rfl, h4, r1, r2, by simp, .inr (.inr (.inr (.inr (.inr (.inr ⟨_, _, rfl, rfl, rfl⟩)))))⟩⟩
  | scan r1 r2 =>
    obtain ⟨a, m, xs, rfl, rfl, ha, g0⟩ := Dt.tupI hx
    obtain ⟨v1, w1, rfl, h1, g1⟩ := g0.consI
    have e := h1.strI.1
    subst e
    obtain ⟨v2, w2, rfl, h2, g2⟩ := g1.consI
    obtain ⟨v3, w3, rfl, h3, g3⟩ := g2.consI
    obtain ⟨v4, w4, rfl, h4, g4⟩ := g3.consI
    have e := g4.nilI
    subst e
    exact ⟨a, m, _, _, rfl, rfl, ha, .inr ⟨by decide, _, _, _, _, rfl, h4, r1, r2, by simp, .inl ⟨_, _, rfl, rfl, rfl⟩⟩⟩
  | each r1 r2 =>
    obtain ⟨a, m, xs, rfl, rfl, ha, g0⟩ := Dt.tupI hx
    obtain ⟨v1, w1, rfl, h1, g1⟩ := g0.consI
    have e := h1.strI.1
    subst e
    obtain ⟨v2, w2, rfl, h2, g2⟩ := g1.consI
    obtain ⟨v3, w3, rfl, h3, g3⟩ := g2.consI
    obtain ⟨v4, w4, rfl, h4, g4⟩ := g3.consI
    have e := g4.nilI
    subst e
    exact ⟨a, m, _, _, rfl, rfl, ha, .inr ⟨by decide, _, _, _, _, rfl, h4, r1, r2, by simp, .inr (.inr (.inr (.inl ⟨_, _, rfl, rfl, rfl⟩)))⟩⟩
  | run r1 r2 =>
    obtain ⟨a, m, xs, rfl, rfl, ha, g0⟩ := Dt.tupI hx
    obtain ⟨v1, w1, rfl, h1, g1⟩ := g0.consI
    have e := h1.strI.1
    subst e
    obtain ⟨v2, w2, rfl, h2, g2⟩ := g1.consI
    obtain ⟨v3, w3, rfl, h3, g3⟩ := g2.consI
    obtain ⟨v4, w4, rfl, h4, g4⟩ := g3.consI
    obtain ⟨v5, w5, rfl, h5, g5⟩ := g4.consI
    have e := g5.nilI
    subst e
    exact ⟨a, m, _, _, rfl, rfl, ha, .inr ⟨by decide, _, _, _, _, rfl, h5, r1, r2, by simp, .inr (.inl ⟨_, _, _, rfl, rfl, rfl⟩)⟩⟩
  | rise r1 r2 =>
    obtain ⟨a, m, xs, rfl, rfl, ha, g0⟩ := Dt.tupI hx
    obtain ⟨v1, w1, rfl, h1, g1⟩ := g0.consI
    have e := h1.strI.1
    subst e
    obtain ⟨v2, w2, rfl, h2, g2⟩ := g1.consI
    obtain ⟨v3, w3, rfl, h3, g3⟩ := g2.consI
    obtain ⟨v4, w4, rfl, h4, g4⟩ := g3.consI
    obtain ⟨v5, w5, rfl, h5, g5⟩ := g4.consI
    have e := g5.nilI
    subst e
    exact ⟨a, m, _, _, rfl, rfl, ha, .inr ⟨by decide, _, _, _, _, rfl, h5, r1, r2, by simp, .inr (.inr (.inr (.inr (.inl ⟨_, _, _, rfl, rfl, rfl⟩))))⟩⟩
  | look r0 r1 r2 =>
    obtain ⟨a, m, xs, rfl, rfl, ha, g0⟩ := Dt.tupI hx
    obtain ⟨v1, w1, rfl, h1, g1⟩ := g0.consI
    have e := h1.strI.1
    subst e
    obtain ⟨v2, w2, rfl, h2, g2⟩ := g1.consI
    obtain ⟨v3, w3, rfl, h3, g3⟩ := g2.consI
    obtain ⟨v4, w4, rfl, h4, g4⟩ := g3.consI
    obtain ⟨v5, w5, rfl, h5, g5⟩ := g4.consI
    have e := g5.nilI
    subst e
    exact ⟨a, m, _, _, rfl, rfl, ha, .inr ⟨by decide, _, _, _, _, rfl, h5, r1, r2, by simp, .inr (.inr (.inr (.inr (.inr (.inl ⟨_, _, _, rfl, rfl, rfl⟩)))))⟩⟩
  | seek r1 r2 =>
    obtain ⟨a, m, xs, rfl, rfl, ha, g0⟩ := Dt.tupI hx
    obtain ⟨v1, w1, rfl, h1, g1⟩ := g0.consI
    have e := h1.strI.1
    subst e
    obtain ⟨v2, w2, rfl, h2, g2⟩ := g1.consI
    obtain ⟨v3, w3, rfl, h3, g3⟩ := g2.consI
    obtain ⟨v4, w4, rfl, h4, g4⟩ := g3.consI
    obtain ⟨v5, w5, rfl, h5, g5⟩ := g4.consI
    obtain ⟨v6, w6, rfl, h6, g6⟩ := g5.consI
    have e := g6.nilI
    subst e
    exact ⟨a, m, _, _, rfl, rfl, ha, .inr ⟨by decide, _, _, _, _, rfl, h6, r1, r2, by simp, .inr (.inr (.inl ⟨_, _, _, _, rfl, rfl, rfl⟩))⟩⟩
def bodyOf : Stm → List Stm
  | .put .. => []
  | .same _ _ b => b
  | .scan _ _ b => b
  | .run _ _ _ b => b
  | .seek _ _ _ _ b => b
  | .each _ _ b => b
  | .rise _ _ _ b => b
  | .look _ _ _ b => b
def isPut : Stm → Bool
  | .put .. => true
  | _ => false
def spForm : Sp := fun vs H Q _ => ∃ (S : Addr → Prop) (qq : Bool) (n : Nat) (x : V) (d : PyData) (s : Stm), vs = [x] ∧ Dt S qq H n x d ∧ StD d s ∧ (isPut s = true ∨ BodyOk (bodyOf s)) ∧ ∀ H', Kp [] H H' → Q (.bl true) H'
section
variable {P : Program} {w : World} {K : PySem.W.Frag} {mg : Str → Option Value} {base : Heap}
theorem ok_has_form {dP : Addr} {es : Array DictEntry} {nP : Nat} {tk : Tok} (B : Bi mg) (D : Dfn K mg "has_form" s_has_form ["statement"]) (T : Parts K w mg dP es nP) (M : mg "MOST_BODY" = some (.int 8 tk)) (G_is_row : Has P w K mg base CX0 "is_row" ["thing"] 1 spIsRow) : Has P w K mg base CX0 "has_form" ["statement"] 2 spForm := by
  refine D.has sc_has_form (fun vs H Q E h => ?_) (fun f cdv A outer s H vs Q E hr h => ?_)
  · obtain ⟨S, qq, n, x, d, st, rfl, _⟩ := h; rfl
  · obtain ⟨S, qq, n, x, d, st, rfl, hx, hst, hb, k⟩ := h
    have hu := hu_of hr
    refine ⟨_, (pss_cons (ps_if (PW.pt (pw_or (pt_not (pt_val (pe_callB call_isi (by rfl) B.isinstance (by decide +kernel) (pa_cons (pv 0) (pa_cons (pe_bltn (v := .ty "tuple") (by rfl) B.tuple (by decide +kernel) rfl) pa_nil))))) (pw_or (pt_cmpR (r := rEqT0 K) (op_eqT0 (Nat.lt_of_succ_lt hu)) (pv 0) (pe_tup pa_nil) (nomark _)) (pw_or1 (pt_not (pt_val (pe_callB call_isi (by rfl) B.isinstance (by decide +kernel) (pa_cons (pe_ix (r := rIxT K) ix_tup (pv 0) pe_int (fun _ _ => rfl)) (pa_cons (pe_bltn (v := .ty "str") (by rfl) B.str (by decide +kernel) rfl) pa_nil)))))))))
  (pss_one (ps_ret pe_bl))
  pss_nil)
  (pss_cons (ps_if (PW.pt (pw_or (pt_cmpR (op_notIn_kd T.kd) (pe_ix (r := rIxT K) ix_tup (pv 0) pe_int (fun _ _ => rfl)) (pe_glob (v := .ref dP) rfl T.g rfl) (by rfl)) (pw_or1 (pt_cmpR op_ne (pe_callB call_len (by rfl) B.len PySem.boot_len (pa_cons (pv 0) pa_nil)) (pe_ix (ix_kd T.kd) (pe_glob (v := .ref dP) rfl T.g rfl) (pe_ix (r := rIxT K) ix_tup (pv 0) pe_int (fun _ _ => rfl)) (fun _ _ => rfl)) (nomark _)))))
  (pss_one (ps_ret pe_bl))
  pss_nil)
  (pss_one (ps_ret (pe_or (pe_cmpR op_eq (pe_ix (r := rIxT K) ix_tup (pv 0) pe_int (fun _ _ => rfl)) pe_str (nomark _)) (pe_one (pe_and (pe_has G_is_row (hr.mono (by omega)) (pa_cons (pe_ix (r := rIxT K) ix_tup (pv 0) (pe_un un_neg pe_int) (fun _ _ => rfl)) pa_nil)) (pe_one (pe_chain op_le op_le pe_int (pe_callB call_len (by rfl) B.len PySem.boot_len (pa_cons (pe_ix (r := rIxT K) ix_tup (pv 0) (pe_un un_neg pe_int) (fun _ _ => rfl)) pa_nil)) (pe_glob (v := .int 8) rfl M ⟨_, rfl⟩)))))))))), ?_⟩
    obtain ⟨a, m, z, xs, rfl, rfl, ha, hc⟩ := hst.form hx
    have hT : SqT K H a (.str z :: xs) := SqT.of ha
    obtain ⟨kk, tkz, hz, lk⟩ : ∃ (kk : Nat) (tkz : Tok), PySem.W.nsIn K dP z = some (some (.int (kk : Int) tkz)) ∧ xs.length + 1 = kk := by
      rcases hc with ⟨rfl, l, _⟩ | ⟨_, body, bd, db, es', _, _, _, _, _, hh⟩
      · obtain ⟨t, h⟩ := T.put; exact ⟨4, t, h, by omega⟩
      · rcases hh with ⟨_, _, _, rfl, l⟩ | ⟨_, _, _, _, rfl, l⟩ | ⟨_, _, _, _, _, rfl, l⟩ | ⟨_, _, _, rfl, l⟩ | ⟨_, _, _, _, rfl, l⟩ | ⟨_, _, _, _, rfl, l⟩ | ⟨_, _, _, rfl, l⟩
        · obtain ⟨t, h⟩ := T.scan; exact ⟨4, t, h, by omega⟩
        · obtain ⟨t, h⟩ := T.run; exact ⟨5, t, h, by omega⟩
        · obtain ⟨t, h⟩ := T.seek; exact ⟨6, t, h, by omega⟩
        · obtain ⟨t, h⟩ := T.each; exact ⟨4, t, h, by omega⟩
        · obtain ⟨t, h⟩ := T.rise; exact ⟨5, t, h, by omega⟩
        · obtain ⟨t, h⟩ := T.look; exact ⟨5, t, h, by omega⟩
        · obtain ⟨t, h⟩ := T.same; exact ⟨4, t, h, by omega⟩
    refine ⟨_, rfl, _, _, _, _, _, rfl, .ty _, .base (.tup ha), kit_ty (kb_tuple (.tuple [])), _, rfl, iteF ?_⟩
    refine ⟨_, rfl, by show 0 ≤ sizeLine; decide, fun e he => ?_⟩
    have k1 : Kp [] H (upd H e (.tup [])) := Kp.new he
    have hT1 : SqT K (upd H e (.tup [])) a (.str z :: xs) := SqT.of (k1.tp _ _ ha)
    have hx1 := hx.keep k1
    refine ⟨a, e, _, rfl, rfl, hT1, SqT.of upd_same, by simp, _, rfl, iteF ?_⟩
    generalize upd H e (.tup []) = H1 at k1 hT1 hx1
    refine ⟨_, rfl, a, _, 0, .str z, rfl, rfl, hT1, at0, _, _, _, _, _, rfl, .ty _, str_ty, kit_ty kb_strS, _, rfl, iteF ?_⟩
    refine ⟨_, rfl, a, _, 0, .str z, rfl, rfl, hT1, at0, z, _, rfl, rfl, hz, _, rfl, iteF ?_⟩
    refine ⟨_, rfl, _, _, rfl, .inr ⟨_, hT1, rfl⟩, _, rfl, a, _, 0, .str z, rfl, rfl, hT1, at0, z, _, .int (kk : Int), rfl, rfl, hz, ⟨tkz, rfl⟩, rfl, _, rfl, iteFs ?_ ?_⟩
    · rw [show ((V.str z :: xs).length) = kk from by rw [List.length_cons]; exact lk]
      simp
    refine ⟨_, rfl, a, _, 0, .str z, rfl, rfl, hT1, at0, rfl, ?_⟩
    rcases hc with ⟨rfl, _, b, ts, adds, rfl⟩ | ⟨nz, body, bd, db, es', hbd, hdb, rdb, sb, nx, hh⟩
    · exact ⟨_, rfl, iteT (k H1 k1)⟩
    · refine ⟨_, rfl, iteFs (decide_eq_false fun z => nz (V.str.inj z)) ?_⟩
      have hbody : 1 ≤ body.length ∧ body.length ≤ 8 := by
        rcases hb with hb | hb
        · rcases hh with ⟨_, _, rfl, _⟩ | ⟨_, _, _, rfl, _⟩ | ⟨_, _, _, _, rfl, _⟩ | ⟨_, _, rfl, _⟩ | ⟨_, _, _, rfl, _⟩ | ⟨_, _, _, rfl, _⟩ | ⟨_, _, rfl, _⟩ <;> cases hb
        · rcases hh with ⟨_, _, rfl, _⟩ | ⟨_, _, _, rfl, _⟩ | ⟨_, _, _, _, rfl, _⟩ | ⟨_, _, rfl, _⟩ | ⟨_, _, _, rfl, _⟩ | ⟨_, _, _, rfl, _⟩ | ⟨_, _, rfl, _⟩ <;> exact hb
      obtain ⟨m2, p, ys, rfl, rfl, rx, lx, _, ax⟩ := (hdb.keep k1).rowI rdb
      have lys : ys.length = body.length := by rw [ax.len, sb.len]
      refine ⟨_, rfl, _, rfl, a, _, -1, .ref p, rfl, rfl, hT1, atLast hbd nx, S, qq, m2 + 1, .ref p, db, rfl, hdb.keep k1, fun H2 k2 => ⟨_, rfl, ?_⟩⟩
      rw [isRow_of rdb]
      refine iteT ?_
      have rx2 := rx.keep k2
      have hT2 : SqT K H2 a (.str z :: xs) := SqT.of ((k1.trans k2).tp _ _ ha)
      refine ⟨_, rfl, _, rfl, a, _, -1, .ref p, rfl, rfl, hT2, atLast hbd nx, _, _, rfl, rx2.len, _, _, rfl, rfl, ?_⟩
      refine ⟨_, rfl, iteTs (decide_eq_true (by omega)) ⟨_, _, rfl, rfl, ?_⟩⟩
      show Q (.bl (decide ((ys.length : Int) ≤ 8))) H2
      rw [decide_eq_true (show (ys.length : Int) ≤ 8 by omega)]
      exact k H2 (k1.trans k2)
end
end Fm

namespace Fm
open PySem PySem.Spec PyProof.Rows L2
/-! ### the checker as it stands -/
inductive PuA (H : Hp) : List (Key × V) → List (Str × List Nat) → List Addr → Prop
  | nil : PuA H [] [] []
  | cons {s : Str} {a : Addr} {ns : List Nat} {kvs : List (Key × V)} {l : List (Str × List Nat)} {ls : List Addr} : H a = some (.lst (ns.map fun n => V.int (n : Nat))) → PuA H kvs l ls → PuA H ((.inr s, .ref a) :: kvs) ((s, ns) :: l) (a :: ls)
theorem PuA.kp {ms : List Addr} {H H' : Hp} (k : Kp ms H H') : ∀ {kvs : List (Key × V)} {l : List (Str × List Nat)} {ls : List Addr}, PuA H kvs l ls → (∀ x ∈ ls, x ∉ ms) → PuA H' kvs l ls
  | _, _, _, .nil, _ => .nil
  | _, _, _, .cons h t, n => .cons (k.at_ _ _ h (n _ List.mem_cons_self)) (t.kp k fun x hx => n x (List.mem_cons_of_mem _ hx))
theorem PuA.val {H : Hp} (s : Str) : ∀ {kvs : List (Key × V)} {l : List (Str × List Nat)} {ls : List Addr}, PuA H kvs l ls → (lkA l s = none ∧ valV kvs (.inr s) = none) ∨ ∃ a ns, lkA l s = some ns ∧ valV kvs (.inr s) = some (.ref a) ∧ a ∈ ls ∧ H a = some (.lst (ns.map fun n => V.int (n : Nat)))
  | _, _, _, .nil => .inl ⟨rfl, rfl⟩
  | _, _, _, @PuA.cons _ t a ns kvs l ls h r => by
    rw [lkA_cons, valV_cons']
    by_cases e : t = s
    · rw [if_pos e, if_pos (congrArg Sum.inr e)]
      exact .inr ⟨a, ns, rfl, rfl, List.mem_cons_self, h⟩
    · rw [if_neg e, if_neg (fun z => e (Sum.inr.inj z))]
      exact (PuA.val s r).imp id fun ⟨a', ns', e1, e2, e3, e4⟩ => ⟨a', ns', e1, e2, List.mem_cons_of_mem _ e3, e4⟩
theorem PuA.len {H : Hp} : ∀ {kvs : List (Key × V)} {l : List (Str × List Nat)} {ls : List Addr}, PuA H kvs l ls → kvs.length = l.length
  | _, _, _, .nil => rfl
  | _, _, _, .cons _ t => congrArg (· + 1) t.len
theorem PuA.snoc {H : Hp} {s : Str} {a : Addr} {ns : List Nat} (h : H a = some (.lst (ns.map fun n => V.int (n : Nat)))) : ∀ {kvs : List (Key × V)} {l : List (Str × List Nat)} {ls : List Addr}, PuA H kvs l ls → PuA H (kvs ++ [(.inr s, .ref a)]) (l ++ [(s, ns)]) (ls ++ [a])
  | _, _, _, .nil => .cons h .nil
  | _, _, _, .cons x t => .cons x (t.snoc h)
theorem notin_map {l : List (Str × List Nat)} {s : Str} {ns : List Nat} : s ∉ l.map (·.1) → l.map (fun p => if p.1 = s then (p.1, ns) else p) = l := fun h => by
  refine (List.map_congr_left fun p hp => ?_).trans (List.map_id _)
  rw [if_neg fun e => h (List.mem_map.mpr ⟨p, hp, e⟩)]; rfl
theorem PuA.upd {H H' : Hp} {s : Str} {a : Addr} {ns' : List Nat} (k : Kp [a] H H') (h : H' a = some (.lst (ns'.map fun n => V.int (n : Nat)))) : ∀ {kvs : List (Key × V)} {l : List (Str × List Nat)} {ls : List Addr}, PuA H kvs l ls → ls.Nodup → (l.map (·.1)).Nodup → valV kvs (.inr s) = some (.ref a) → PuA H' kvs (l.map fun p => if p.1 = s then (p.1, ns') else p) ls
  | _, _, _, .nil, _, _, _ => .nil
  | _, _, _, @PuA.cons _ t b ns kvs l ls hb r, nd, nk, e => by
    rw [valV_cons'] at e
    rw [List.map_cons]
    obtain ⟨n1, n2⟩ := List.nodup_cons.mp nd
    obtain ⟨m1, m2⟩ := List.nodup_cons.mp nk
    by_cases z : t = s
    · rw [if_pos (congrArg Sum.inr z)] at e
      cases e
      rw [if_pos z, notin_map (by rw [← z]; exact m1)]
      exact .cons h (r.kp k fun x hx y => n1 (by rw [← List.mem_singleton.mp y]; exact hx))
    · rw [if_neg (fun y => z (Sum.inr.inj y))] at e
      rw [if_neg z]
      refine .cons (k.at_ _ _ hb fun y => ?_) (r.upd k h n2 m2 e)
      have hba : b = a := List.mem_singleton.mp y
      rcases r.val s with ⟨_, e'⟩ | ⟨a', _, _, e2, e3, _⟩
      · rw [e] at e'; cases e'
      · rw [e] at e2
        cases e2
        exact n1 (by rw [hba]; exact e3)
structure CkAt (CC : Addr) (H : Hp) (q : Addr) (E : CEnv) (cs : Cs) (dt db dp ln : Addr) (ls : List Addr) : Prop where
  obj : ∃ dx, H q = some (.ins CC dx [("tables", .ref dt), ("blocks", .ref db), ("putters", .ref dp), ("named", .ref ln), ("seen", .int cs.seen)])
  tabs : ∃ kt, H dt = some (.dK kt) ∧ KA (TabV H) kt E.tabs
  blks : ∃ kb, H db = some (.dK kb) ∧ KA (BlkV H) kb E.blks
  pu : ∃ kp, H dp = some (.dK kp) ∧ PuA H kp cs.pu ls
  nm : H ln = some (.lst (cs.nm.map V.str))
  nd : ls.Nodup ∧ (cs.pu.map (·.1)).Nodup ∧ ln ∉ ls ∧ dp ≠ dt ∧ dp ≠ db
theorem CkAt.o {CC : Addr} {H : Hp} {q : Addr} {E : CEnv} {cs : Cs} {dt db dp ln : Addr} {ls : List Addr} (h : CkAt CC H q E cs dt db dp ln ls) : CkO CC H q := let ⟨dx, e⟩ := h.obj; ⟨dx, dt, db, dp, ln, _, e⟩
def ownC (q dp ln : Addr) (ls : List Addr) : List Addr := q :: dp :: ln :: ls
theorem CkAt.kp {CC : Addr} {H H' : Hp} {q : Addr} {E : CEnv} {cs : Cs} {dt db dp ln : Addr} {ls : List Addr} {ms : List Addr} (h : CkAt CC H q E cs dt db dp ln ls) (k : Kp ms H H') (hd : ∀ x ∈ ms, x ∉ ownC q dp ln ls ∧ x ≠ dt ∧ x ≠ db) : CkAt CC H' q E cs dt db dp ln ls := by
  obtain ⟨⟨dx, h1⟩, ⟨kt, h2, h3⟩, ⟨kb, h4, h5⟩, ⟨kp, h6, h7⟩, h8, h9⟩ := h
  have n : ∀ x, x ∈ ownC q dp ln ls → x ∉ ms := fun x hx hm => (hd x hm).1 hx
  exact ⟨⟨dx, k.at_ _ _ h1 (n _ List.mem_cons_self)⟩, ⟨kt, k.at_ _ _ h2 (fun z => (hd _ z).2.1 rfl), h3.imp fun _ _ => TabV.kp k⟩, ⟨kb, k.at_ _ _ h4 (fun z => (hd _ z).2.2 rfl), h5.imp fun _ _ => BlkV.kp k⟩,
    ⟨kp, k.at_ _ _ h6 (n _ (by simp [ownC])), h7.kp k fun x hx => n _ (by simp [ownC, hx])⟩, k.at_ _ _ h8 (n _ (by simp [ownC])), h9⟩
theorem CkAt.kp0 {CC : Addr} {H H' : Hp} {q : Addr} {E : CEnv} {cs : Cs} {dt db dp ln : Addr} {ls : List Addr} (h : CkAt CC H q E cs dt db dp ln ls) (k : Kp [] H H') : CkAt CC H' q E cs dt db dp ln ls := h.kp k fun x hx => nomatch hx
/-- a scan, run or seek that is right -/
def TabSt (E : CEnv) (ar : Ar) (s : Stm) (v : Str) (fs : List Str) : Prop := ∃ t body, lkA E.tabs t = some fs ∧ (s = .scan v t body ∨ (∃ f, s = .run v t f body ∧ f ∈ fs) ∨ ∃ f a, s = .seek v t f a body ∧ f ∈ fs ∧ TmOk ar a)
def spFitsTab (CC : Addr) : Sp := fun vs H Q _ => ∃ (q D dt db dp ln : Addr) (ls : List Addr) (E : CEnv) (cs : Cs) (ar : Ar) (S : Addr → Prop) (qq : Bool) (n : Nat) (x : V) (d : PyData) (s : Stm) (v : Str) (fs : List Str), vs = [.ref q, x, .ref D] ∧ CkAt CC H q E cs dt db dp ln ls ∧ Dt S qq H n x d ∧ StD d s ∧ TabSt E ar s v fs ∧ ArAt H D ar ∧ lkA ar v = none ∧ ar.length ≤ 100 ∧
  ∀ H', Kp [D] H H' → ArAt H' D (ar ++ [(v, false, fs, [])]) → Q (.bl true) H'
theorem tabst_form {E : CEnv} {ar : Ar} {S : Addr → Prop} {qq : Bool} {H : Hp} {n : Nat} {x : V} {d : PyData} {s : Stm} {v : Str} {fs : List Str} (hx : Dt S qq H n x d) (hd : StD d s) (h : TabSt E ar s v fs) : ∃ a m z t rest, x = .ref a ∧ n = m + 1 ∧ rest ≠ [] ∧ H a = some (.tup (.str z :: .str v :: .str t :: rest)) ∧ lkA E.tabs t = some fs ∧ (z = "scan" ∨ (z ≠ "scan" ∧ ∃ f, rest[0]? = some (.str f) ∧ f ∈ fs)) ∧ (z ≠ "seek" ∨ (z = "seek" ∧ ∃ y tm, rest[1]? = some y ∧ Dt S qq H m y (dTm tm) ∧ TmOk ar tm)) := by
  obtain ⟨t, body, ht, h⟩ := h
  rcases h with rfl | ⟨f, rfl, hf⟩ | ⟨f, tm, rfl, hf, ok⟩
  · cases hd with
    | scan r1 r2 =>
      obtain ⟨a, m, xs, rfl, rfl, ha, g0⟩ := Dt.tupI hx
      obtain ⟨v1, w1, rfl, h1, g1⟩ := g0.consI
      obtain ⟨v2, w2, rfl, h2, g2⟩ := g1.consI
      obtain ⟨v3, w3, rfl, h3, g3⟩ := g2.consI
      have e := h1.strI.1; subst e
      have e := h2.strI.1; subst e
      have e := h3.strI.1; subst e
      exact ⟨a, m, _, _, _, rfl, rfl, (fun z => by have := g3.len; rw [z] at this; cases this), ha, ht, .inl rfl, .inl (by decide)⟩
  · cases hd with
    | run r1 r2 =>
      obtain ⟨a, m, xs, rfl, rfl, ha, g0⟩ := Dt.tupI hx
      obtain ⟨v1, w1, rfl, h1, g1⟩ := g0.consI
      obtain ⟨v2, w2, rfl, h2, g2⟩ := g1.consI
      obtain ⟨v3, w3, rfl, h3, g3⟩ := g2.consI
      obtain ⟨v4, w4, rfl, h4, g4⟩ := g3.consI
      have e := h1.strI.1; subst e
      have e := h2.strI.1; subst e
      have e := h3.strI.1; subst e
      have e := h4.strI.1; subst e
      exact ⟨a, m, _, _, _, rfl, rfl, by simp, ha, ht, .inr ⟨by decide, f, rfl, hf⟩, .inl (by decide)⟩
  · cases hd with
    | seek r1 r2 =>
      obtain ⟨a, m, xs, rfl, rfl, ha, g0⟩ := Dt.tupI hx
      obtain ⟨v1, w1, rfl, h1, g1⟩ := g0.consI
      obtain ⟨v2, w2, rfl, h2, g2⟩ := g1.consI
      obtain ⟨v3, w3, rfl, h3, g3⟩ := g2.consI
      obtain ⟨v4, w4, rfl, h4, g4⟩ := g3.consI
      obtain ⟨v5, w5, rfl, h5, g5⟩ := g4.consI
      have e := h1.strI.1; subst e
      have e := h2.strI.1; subst e
      have e := h3.strI.1; subst e
      have e := h4.strI.1; subst e
      exact ⟨a, m, _, _, _, rfl, rfl, by simp, ha, ht, .inr ⟨by decide, f, rfl, hf⟩, .inr ⟨rfl, v5, tm, rfl, h5, ok⟩⟩
theorem and_gen {c : Bool} {σ : List (Option V)} {H : Hp} {Q : Bool → Hp → Prop} {u : TT} (hu : c = true → ∀ Q : Bool → Hp → Prop, Q false H → u σ H Q) (k : Q false H) : if c = true then u σ H Q else Q false H := by
  cases c with
  | false => exact k
  | true => exact hu rfl Q k
theorem cut3 {a b c : V} {rest : List V} : cutV (a :: b :: c :: rest) none (some 3) = [a, b, c] := by
  unfold cutV
  have := HT.sIx_nat (a :: b :: c :: rest).length (a :: b :: c :: rest).length 3
  have e3 : ((3 : Nat) : Int) = 3 := rfl
  rw [e3] at this
  rw [this, HT.sIx_none, List.drop_zero, Nat.sub_zero]
  have : min 3 (a :: b :: c :: rest).length = 3 := by rw [List.length_cons, List.length_cons, List.length_cons]; omega
  rw [this]; rfl
theorem notWhole {a b c : V} {rest : List V} (h : rest ≠ []) : ¬ (HT.sIx (a :: b :: c :: rest).length 0 none = 0 ∧ HT.sIx (a :: b :: c :: rest).length (a :: b :: c :: rest).length (some 3) = (a :: b :: c :: rest).length) := fun z => by
  have := HT.sIx_nat (a :: b :: c :: rest).length (a :: b :: c :: rest).length 3
  have e3 : ((3 : Nat) : Int) = 3 := rfl
  rw [e3] at this
  rw [this] at z
  have l := List.length_pos_iff.mpr h
  have z := z.2
  rw [List.length_cons, List.length_cons, List.length_cons] at z
  omega
section
variable {P : Program} {w : World} {K : PySem.W.Frag} {mg : Str → Option Value} {base : Heap}
theorem ok_fits_table {fT fR CC : Addr} {fdT fdR : FuncData} (B : Bi mg) (F : Fun K "fits_table" "Checker.fits_table" s_Checker_fits_table fT fdT) (cl : Cls K CC) (na : NoAttr K CC "tables") (mR : Meth K CC "is_term" fR) (GR : FnOk P w K mg base CX0 3 fR fdR ["self", "thing", "around"] (spTerm CC)) (bR : Binds K fdR ["self", "thing", "around"] []) : FnOk P w K mg base CX0 4 fT fdT ["self", "statement", "around"] (spFitsTab CC) := by
  refine F.ok sc_Checker_fits_table (fun vs H Q E h => ?_) (fun cdv A outer s H vs Q E hr h => ?_)
  · obtain ⟨q, D, dt, db, dp, ln, ls, E, cs, ar, S, qq, n, x, d, st, v, fs, rfl, _⟩ := h; rfl
  · obtain ⟨q, D, dt, db, dp, ln, ls, CE, cs, ar, S, qq, n, x, d, st, v, fs, rfl, hq, hx, hd, ht, hD, hv, la, k⟩ := h
    have hu := hu_of hr
    refine ⟨_, (pss_cons (ps_asg (pe_slice sl_tup (pv 1) po_none (po_some pe_int)) (pg_tup rfl (pgs_cons (pg_name (i := 3) sc_Checker_fits_table.nd rfl (by first | exact Or.inl rfl | exact Or.inr rfl)) (pgs_cons (pg_name (i := 4) sc_Checker_fits_table.nd rfl (by first | exact Or.inl rfl | exact Or.inr rfl)) (pgs_cons (pg_name (i := 5) sc_Checker_fits_table.nd rfl (by first | exact Or.inl rfl | exact Or.inr rfl)) pgs_nil)))))
  (pss_cons (ps_if (PW.pt (pw_or (pt_not (pt_val (pe_callB call_isi (by rfl) B.isinstance (by decide +kernel) (pa_cons (pv 5) (pa_cons (pe_bltn (v := .ty "str") (by rfl) B.str (by decide +kernel) rfl) pa_nil))))) (pw_or1 (pt_cmp (pc_dnotin hu (pv 5) (pe_fld (pv 0) rfl)) rfl))))
  (pss_one (ps_ret pe_bl))
  pss_nil)
  (pss_cons (ps_set (i := 6) sc_Checker_fits_table.nd rfl (by first | exact Or.inl rfl | exact Or.inr rfl) (pe_dget hu (pe_fld (pv 0) rfl) (pv 5) (fun _ _ => rfl)))
  (pss_cons (ps_if (PW.pt (pw_and (pt_cmpR op_ne (pv 3) pe_str (nomark _)) (pw_and1 (PW.pt (pw_or (pt_not (pt_val (pe_callB call_isi (by rfl) B.isinstance (by decide +kernel) (pa_cons (pe_ix (r := rIxT K) ix_tup (pv 1) pe_int (fun _ _ => rfl)) (pa_cons (pe_bltn (v := .ty "str") (by rfl) B.str (by decide +kernel) rfl) pa_nil))))) (pw_or1 (pt_cmpR (r := rIn K true) op_notIn_seq (pe_ix (r := rIxT K) ix_tup (pv 1) pe_int (fun _ _ => rfl)) (pv 6) (by rfl))))))))
  (pss_one (ps_ret pe_bl))
  pss_nil)
  (pss_cons (ps_if (PW.pt (pw_and (pt_cmpR op_eq (pv 3) pe_str (nomark _)) (pw_and1 (pt_not (pt_val (pe_meth (E := E0) (pv 0) cl mR GR (hr.mono (by omega)) bR .nil pass0 (pa_cons (pe_ix (r := rIxT K) ix_tup (pv 1) pe_int (fun _ _ => rfl)) (pa_cons (pv 2) pa_nil))))))))
  (pss_one (ps_ret pe_bl))
  pss_nil)
  (pss_cons (ps_dput hu (pv 2) (pv 4) (pe_tup (pa_cons pe_bl (pa_cons (pv 6) (pa_cons (pe_tup pa_nil) pa_nil)))) rfl)
  (pss_one (ps_ret pe_bl)))))))), ?_⟩
    have hsz : sizeLine = 16777216 := rfl
    obtain ⟨a, m, z, t, rest, rfl, rfl, nr, ha, htt, hsc, hsk⟩ := tabst_form hx hd ht
    refine ⟨_, rfl, 3, rfl, a, _, rfl, SqT.of ha, notWhole nr, fun e he => ?_⟩
    rw [cut3]
    have k1 : Kp [] H (upd H e (.tup [.str z, .str v, .str t])) := Kp.new he
    have hee : upd H e (.tup [.str z, .str v, .str t]) e = some (.tup [.str z, .str v, .str t]) := upd_same
    generalize upd H e (.tup [.str z, .str v, .str t]) = H1 at k1 hee
    have hq1 := hq.kp0 k1
    have hD1 := hD.kp k1 (fun z => nomatch z)
    have ha1 := k1.tp _ _ ha
    obtain ⟨⟨dx, ho⟩, ⟨kt, hkt, KT⟩, _, _, _, _⟩ := id hq1
    obtain ⟨tv, hval, fa, rfl, hfa⟩ := KT.some_ htt
    refine ⟨e, _, rfl, SqT.of hee, rfl, _, _, rfl, _, _, rfl, _, _, rfl, rfl, ?_⟩
    refine ⟨_, rfl, _, _, _, _, _, rfl, .ty _, str_ty, kit_ty kb_strS, _, rfl, iteF ?_⟩
    refine ⟨_, rfl, _, rfl, q, CC, dx, _, _, rfl, ho, cl, na, rfl, dt, _, rfl, .inl ⟨_, .inr t, .inl hkt, rfl, rfl⟩, _, rfl, ?_⟩
    rw [hval]
    refine iteF ?_
    refine ⟨_, rfl, q, CC, dx, _, _, rfl, ho, cl, na, rfl, _, rfl, dt, _, rfl, .inl ⟨_, .inr t, .inl hkt, rfl, hval.symm⟩, ?_⟩
    refine ⟨_, rfl, rfl, _, rfl, and_gen (fun hc Q hQ => ?_) (iteF ?_)⟩
    · rcases hsc with rfl | ⟨_, f, hf, fin⟩
      · cases hc
      · have at3 : atI (.str z :: .str v :: .str t :: rest) 3 = some (.str f) := atI_nat (k := 3) hf
        refine ⟨_, rfl, a, _, 3, .str f, rfl, rfl, SqT.of ha1, at3, _, _, _, _, _, rfl, .ty _, str_ty, kit_ty kb_strS, _, rfl, iteF ⟨_, rfl, a, _, 3, .str f, rfl, rfl, SqT.of ha1, at3, _, rfl, fa, _, rfl, .inr (SqT.of hfa), rfl, flat_strsQ fs, _, rfl, ?_⟩⟩
        rw [inV_strsQ, decide_eq_true fin]
        exact hQ
    refine ⟨_, rfl, rfl, _, rfl, and_gen (fun hc Q hQ => ?_) (iteF ?_)⟩
    · rcases hsk with nz | ⟨rfl, y, tm, hy, iy, ok⟩
      · exact absurd (V.str.inj (of_decide_eq_true hc)) nz
      · exact ⟨_, rfl, q, dx, _, rfl, ho, rfl, _, rfl, a, _, 4, y, rfl, rfl, SqT.of ha1, atI_nat (k := 4) hy, _, rfl, q, D, y, tm, ar, S, qq, m, rfl, hq1.o, iy.keep k1, hD1, ok, _, rfl, hQ⟩
    obtain ⟨kd, hkd, KD⟩ := hD1
    refine ⟨_, rfl, by show 0 ≤ sizeLine; decide, fun e2 he2 => ⟨by show 3 ≤ sizeLine; decide, fun e3 he3 => ?_⟩⟩
    have k2 : Kp [] H1 (upd (upd H1 e2 (.tup [])) e3 (.tup [.bl false, .ref fa, .ref e2])) := (Kp.new he2).snoc he3
    have h33 : upd (upd H1 e2 (.tup [])) e3 (.tup [.bl false, .ref fa, .ref e2]) e3 = some (.tup [.bl false, .ref fa, .ref e2]) := upd_same
    have h22 : upd (upd H1 e2 (.tup [])) e3 (.tup [.bl false, .ref fa, .ref e2]) e2 = some (.tup []) := (Kp.new (ms := []) he3).tp _ _ upd_same
    generalize upd (upd H1 e2 (.tup [])) e3 (.tup [.bl false, .ref fa, .ref e2]) = H2 at k2 h33 h22
    have hkd2 := k2.at_ _ _ hkd (fun z => nomatch z)
    have KD2 := KD.imp fun _ _ => EntV.kp k2
    have kl := KD.len
    refine ⟨_, rfl, _, rfl, D, _, rfl, DPut.k (k := .inr v) hkd2 (by omega), ?_⟩
    rw [putK_new _ (KD2.none_ hv)]
    have kD : Kp [D] H2 (upd H2 D (.dK (kd ++ [(.inr v, .ref e3)]))) := Kp.set hkd2 (fun _ z => by cases z) (by simp)
    refine k _ ((k1.trans k2).zero.trans kD) ⟨_, upd_same, (KD2.imp fun _ _ => EntV.kp kD).snoc ⟨e3, fa, e2, rfl, kD.tp _ _ h33, ?_, kD.tp _ _ h22⟩⟩
    exact (k2.zero.trans kD).tp _ _ hfa
end
end Fm

namespace Fm
open PySem PySem.Spec PyProof.Rows L2
/-! ### each, rise, look -/
def EntSt (E : CEnv) (cs : Cs) (top : Nat) (ar : Ar) (s : Stm) (v b : Str) (ks ss : List Str) : Prop := EntOk E cs top b ks ss ∧ ∃ body, s = .each v b body ∨ (∃ f, s = .rise v b f body ∧ f ∈ ks) ∨ ∃ ts, s = .look v b ts body ∧ ts.length = ks.length ∧ ∀ t ∈ ts, TmOk ar t
def spFitsEnt (CC : Addr) : Sp := fun vs H Q _ => ∃ (q D dt db dp ln : Addr) (ls : List Addr) (E : CEnv) (cs : Cs) (top : Nat) (ar : Ar) (S : Addr → Prop) (qq : Bool) (n : Nat) (x : V) (d : PyData) (s : Stm) (v b : Str) (ks ss : List Str), vs = [.ref q, x, .int top, .ref D] ∧ CkAt CC H q E cs dt db dp ln ls ∧ Dt S qq H n x d ∧ StD d s ∧ EntSt E cs top ar s v b ks ss ∧ ArAt H D ar ∧ lkA ar v = none ∧ ar.length ≤ 100 ∧ ks.length ≤ 1000 ∧ cs.nm.length ≤ 1000 ∧ D ∉ ownC q dp ln ls ∧ D ≠ dt ∧ D ≠ db ∧
  ∀ H', Kp [D, ln] H H' → ArAt H' D (ar ++ [(v, true, ks, ss)]) → CkAt CC H' q E { cs with nm := cs.nm ++ [b] } dt db dp ln ls → Q (.bl true) H'
theorem entst_form {E : CEnv} {cs : Cs} {top : Nat} {ar : Ar} {S : Addr → Prop} {qq : Bool} {H : Hp} {n : Nat} {x : V} {d : PyData} {s : Stm} {v b : Str} {ks ss : List Str} (hx : Dt S qq H n x d) (hd : StD d s) (h : EntSt E cs top ar s v b ks ss) : ∃ a m z rest, x = .ref a ∧ n = m + 1 ∧ rest ≠ [] ∧ H a = some (.tup (.str z :: .str v :: .str b :: rest)) ∧ (z ≠ "rise" ∨ (z = "rise" ∧ ∃ f, rest[0]? = some (.str f) ∧ f ∈ ks)) ∧ (z ≠ "look" ∨ (z = "look" ∧ ∃ (y : V) (dk : PyData) (ts : List Tm), rest[0]? = some y ∧ Dt S qq H m y dk ∧ RowD dk (ts.map dTm) ∧ ts.length = ks.length ∧ ∀ t ∈ ts, TmOk ar t)) := by
  obtain ⟨_, body, h⟩ := h
  rcases h with rfl | ⟨f, rfl, hf⟩ | ⟨ts, rfl, lt, ok⟩
  · cases hd with
    | each r1 r2 =>
      obtain ⟨a, m, xs, rfl, rfl, ha, g0⟩ := Dt.tupI hx
      obtain ⟨v1, w1, rfl, h1, g1⟩ := g0.consI
      obtain ⟨v2, w2, rfl, h2, g2⟩ := g1.consI
      obtain ⟨v3, w3, rfl, h3, g3⟩ := g2.consI
      have e := h1.strI.1; subst e
      have e := h2.strI.1; subst e
      have e := h3.strI.1; subst e
      exact ⟨a, m, _, _, rfl, rfl, (fun z => by have := g3.len; rw [z] at this; cases this), ha, .inl (by decide), .inl (by decide)⟩
  · cases hd with
    | rise r1 r2 =>
      obtain ⟨a, m, xs, rfl, rfl, ha, g0⟩ := Dt.tupI hx
      obtain ⟨v1, w1, rfl, h1, g1⟩ := g0.consI
      obtain ⟨v2, w2, rfl, h2, g2⟩ := g1.consI
      obtain ⟨v3, w3, rfl, h3, g3⟩ := g2.consI
      obtain ⟨v4, w4, rfl, h4, g4⟩ := g3.consI
      have e := h1.strI.1; subst e
      have e := h2.strI.1; subst e
      have e := h3.strI.1; subst e
      have e := h4.strI.1; subst e
      exact ⟨a, m, _, _, rfl, rfl, by simp, ha, .inr ⟨rfl, f, rfl, hf⟩, .inl (by decide)⟩
  · cases hd with
    | look r0 r1 r2 =>
      obtain ⟨a, m, xs, rfl, rfl, ha, g0⟩ := Dt.tupI hx
      obtain ⟨v1, w1, rfl, h1, g1⟩ := g0.consI
      obtain ⟨v2, w2, rfl, h2, g2⟩ := g1.consI
      obtain ⟨v3, w3, rfl, h3, g3⟩ := g2.consI
      obtain ⟨v4, w4, rfl, h4, g4⟩ := g3.consI
      have e := h1.strI.1; subst e
      have e := h2.strI.1; subst e
      have e := h3.strI.1; subst e
      exact ⟨a, m, _, _, rfl, rfl, by simp, ha, .inl (by decide), .inr ⟨rfl, v4, _, ts, rfl, h4, r0, lt, ok⟩⟩
section
variable {P : Program} {w : World} {K : PySem.W.Frag} {mg : Str → Option Value} {base : Heap}
theorem ok_fits_entry {fT fR CC : Addr} {fdT fdR : FuncData} (B : Bi mg) (F : Fun K "fits_entry" "Checker.fits_entry" s_Checker_fits_entry fT fdT) (cl : Cls K CC) (nb : NoAttr K CC "blocks") (np : NoAttr K CC "putters") (nn : NoAttr K CC "named") (mR : Meth K CC "are_terms" fR) (GR : FnOk P w K mg base CX0 4 fR fdR ["self", "thing", "many", "around"] (spTerms CC)) (bR : Binds K fdR ["self", "thing", "many", "around"] []) : FnOk P w K mg base CX0 5 fT fdT ["self", "statement", "top", "around"] (spFitsEnt CC) := by
  refine F.ok sc_Checker_fits_entry (fun vs H Q E h => ?_) (fun cdv A outer s H vs Q E hr h => ?_)
  · obtain ⟨q, D, dt, db, dp, ln, ls, E, cs, top, ar, S, qq, n, x, d, st, v, b, ks, ss, rfl, _⟩ := h; rfl
  · obtain ⟨q, D, dt, db, dp, ln, ls, CE, cs, top, ar, S, qq, n, x, d, st, v, b, ks, ss, rfl, hq, hx, hd, ht, hD, hv, la, lks, lnm, Do, Dt', Db, k⟩ := h
    have hu := hu_of hr
    refine ⟨_, (pss_cons (ps_asg (pe_slice sl_tup (pv 1) po_none (po_some pe_int)) (pg_tup rfl (pgs_cons (pg_name (i := 4) sc_Checker_fits_entry.nd rfl (by first | exact Or.inl rfl | exact Or.inr rfl)) (pgs_cons (pg_name (i := 5) sc_Checker_fits_entry.nd rfl (by first | exact Or.inl rfl | exact Or.inr rfl)) (pgs_cons (pg_name (i := 6) sc_Checker_fits_entry.nd rfl (by first | exact Or.inl rfl | exact Or.inr rfl)) pgs_nil)))))
  (pss_cons (ps_if (PW.pt (pw_or (pt_not (pt_val (pe_callB call_isi (by rfl) B.isinstance (by decide +kernel) (pa_cons (pv 6) (pa_cons (pe_bltn (v := .ty "str") (by rfl) B.str (by decide +kernel) rfl) pa_nil))))) (pw_or1 (pt_cmp (pc_dnotin hu (pv 6) (pe_fld (pv 0) rfl)) rfl))))
  (pss_one (ps_ret pe_bl))
  pss_nil)
  (pss_cons (ps_set (i := 7) sc_Checker_fits_entry.nd rfl (by first | exact Or.inl rfl | exact Or.inr rfl) (pe_dget2 hu (pe_fld (pv 0) rfl) (pv 6) (pe_lst pa_nil) ⟨rfl, rfl, rfl, rfl⟩))
  (pss_cons (ps_if (PW.pt (pw_or (pt_cmpR op_ne (pe_callB call_len (by rfl) B.len PySem.boot_len (pa_cons (pv 7) pa_nil)) pe_int (nomark _)) (pw_or1 (pt_cmpR op_eq (pe_ix ix_list (pv 7) pe_int (fun _ _ => rfl)) (pv 2) (nomark _)))))
  (pss_one (ps_ret pe_bl))
  pss_nil)
  (pss_cons (ps_asg (pe_dget hu (pe_fld (pv 0) rfl) (pv 6) (fun _ _ => rfl)) (pg_tup rfl (pgs_cons (pg_name (i := 8) sc_Checker_fits_entry.nd rfl (by first | exact Or.inl rfl | exact Or.inr rfl)) (pgs_cons (pg_name (i := 9) sc_Checker_fits_entry.nd rfl (by first | exact Or.inl rfl | exact Or.inr rfl)) pgs_nil))))
  (pss_cons (ps_if (PW.pt (pw_and (pt_cmpR op_eq (pv 4) pe_str (nomark _)) (pw_and1 (PW.pt (pw_or (pt_not (pt_val (pe_callB call_isi (by rfl) B.isinstance (by decide +kernel) (pa_cons (pe_ix (r := rIxT K) ix_tup (pv 1) pe_int (fun _ _ => rfl)) (pa_cons (pe_bltn (v := .ty "str") (by rfl) B.str (by decide +kernel) rfl) pa_nil))))) (pw_or1 (pt_cmpR (r := rIn K true) op_notIn_seq (pe_ix (r := rIxT K) ix_tup (pv 1) pe_int (fun _ _ => rfl)) (pv 8) (by rfl))))))))
  (pss_one (ps_ret pe_bl))
  pss_nil)
  (C8.pss_cut (ps_if (PW.pt (pw_and (pt_cmpR op_eq (pv 4) pe_str (nomark _)) (pw_and1 (pt_not (pt_val (pe_meth (E := E0) (pv 0) cl mR GR (hr.mono (by omega)) bR .nil pass0 (pa_cons (pe_ix (r := rIxT K) ix_tup (pv 1) pe_int (fun _ _ => rfl)) (pa_cons (pe_callB call_len (by rfl) B.len PySem.boot_len (pa_cons (pv 8) pa_nil)) (pa_cons (pv 3) pa_nil)))))))))
  (pss_one (ps_ret pe_bl))
  pss_nil)
  (pss_cons (ps_dput hu (pv 3) (pv 5) (pe_tup (pa_cons pe_bl (pa_cons (pv 8) (pa_cons (pv 9) pa_nil)))) rfl)
  (pss_cons (ps_expr (pe_bm PySem.F.plainAttrs_list PySem.F.slot_list_append PySem.F.type_list_append mt_append (pe_fld (pv 0) rfl) (pa_cons (pv 6) pa_nil)))
  (pss_one (ps_ret pe_bl))))))))))), ?_⟩
    have hsz : sizeLine = 16777216 := rfl
    obtain ⟨a, m, z, rest, rfl, rfl, nr, ha, hri, hlo⟩ := entst_form hx hd ht
    obtain ⟨⟨hbk, tp, hpt, ntp⟩, _⟩ := ht
    refine ⟨_, rfl, 3, rfl, a, _, rfl, SqT.of ha, notWhole nr, fun e he => ?_⟩
    rw [cut3]
    have k1 : Kp [] H (upd H e (.tup [.str z, .str v, .str b])) := Kp.new he
    have hee : upd H e (.tup [.str z, .str v, .str b]) e = some (.tup [.str z, .str v, .str b]) := upd_same
    generalize upd H e (.tup [.str z, .str v, .str b]) = H1 at k1 hee
    have hq1 := hq.kp0 k1
    have hD1 := hD.kp k1 (fun z => nomatch z)
    have ha1 := k1.tp _ _ ha
    obtain ⟨⟨dx, ho⟩, _, ⟨kb, hkb, KB⟩, ⟨kp, hkp, KP⟩, hnm, nd⟩ := id hq1
    obtain ⟨bv, hval, ba, bk, bs, rfl, hb1, hb2, hb3⟩ := KB.some_ hbk
    refine ⟨e, _, rfl, SqT.of hee, rfl, _, _, rfl, _, _, rfl, _, _, rfl, rfl, ?_⟩
    refine ⟨_, rfl, _, _, _, _, _, rfl, .ty _, str_ty, kit_ty kb_strS, _, rfl, iteF ?_⟩
    refine ⟨_, rfl, _, rfl, q, CC, dx, _, _, rfl, ho, cl, nb, rfl, db, _, rfl, .inl ⟨_, .inr b, .inl hkb, rfl, rfl⟩, _, rfl, ?_⟩
    rw [hval]
    refine iteF ?_
    obtain ⟨pa, ns, ep, hpv, _, hpa⟩ : ∃ pa ns, lkA cs.pu b = some ns ∧ valV kp (.inr b) = some (.ref pa) ∧ pa ∈ ls ∧ H1 pa = some (.lst (ns.map fun n => V.int (n : Nat))) := by
      rcases KP.val b with ⟨e', _⟩ | h
      · rw [hpt] at e'; cases e'
      · exact h
    rw [hpt] at ep
    cases ep
    refine ⟨_, rfl, q, CC, dx, _, _, rfl, ho, cl, np, rfl, dp, rfl, .inl ⟨_, .inl hkp⟩, _, rfl, by show 0 ≤ sizeLine; decide, fun e1 he1 => ?_⟩
    have k2 : Kp [] H1 (upd H1 e1 (.lst [])) := Kp.new he1
    have hkp2 := k2.at_ _ _ hkp (fun z => nomatch z)
    have hpa2 := k2.at_ _ _ hpa (fun z => nomatch z)
    have hkb2 := k2.at_ _ _ hkb (fun z => nomatch z)
    have ho2 := k2.at_ _ _ ho (fun z => nomatch z)
    have hb12 := k2.tp _ _ hb1
    have hb22 := k2.tp _ _ hb2
    have hb32 := k2.tp _ _ hb3
    have ha2 := k2.tp _ _ ha1
    have hq2 := hq1.kp0 k2
    have hD2 := hD1.kp k2 (fun z => nomatch z)
    have k12 := k1.trans k2
    generalize upd H1 e1 (.lst []) = H2 at k2 hkp2 hpa2 hkb2 ho2 hb12 hb22 hb32 ha2 hq2 hD2 k12
    refine ⟨_, .inl ⟨_, .inr b, .inl hkp2, rfl, rfl⟩, ?_⟩
    rw [hpv]
    refine ⟨_, rfl, _, _, rfl, .inl ⟨_, SqL.of hpa2, rfl⟩, rfl, _, rfl, iteF ?_⟩
    refine ⟨_, rfl, pa, _, 0, .int (tp : Nat), rfl, rfl, SqL.of hpa2, rfl, _, rfl, rfl, _, rfl, iteFs (decide_eq_false fun z => ntp (by have := V.int.inj z; omega)) ?_⟩
    refine ⟨_, rfl, q, CC, dx, _, _, rfl, ho2, cl, nb, rfl, _, rfl, db, _, rfl, .inl ⟨_, .inr b, .inl hkb2, rfl, hval.symm⟩, ?_⟩
    refine ⟨ba, _, rfl, SqT.of hb12, rfl, _, _, rfl, _, _, rfl, rfl, ?_⟩
    refine ⟨_, rfl, rfl, _, rfl, and_gen (fun hc Q hQ => ?_) (iteF ?_)⟩
    · rcases hri with nz | ⟨_, f, hf, fin⟩
      · exact absurd (V.str.inj (of_decide_eq_true hc)) nz
      · have at3 : atI (.str z :: .str v :: .str b :: rest) 3 = some (.str f) := atI_nat (k := 3) hf
        refine ⟨_, rfl, a, _, 3, .str f, rfl, rfl, SqT.of ha2, at3, _, _, _, _, _, rfl, .ty _, str_ty, kit_ty kb_strS, _, rfl, iteF ⟨_, rfl, a, _, 3, .str f, rfl, rfl, SqT.of ha2, at3, _, rfl, bk, _, rfl, .inr (SqT.of hb22), rfl, flat_strsQ ks, _, rfl, ?_⟩⟩
        rw [inV_strsQ, decide_eq_true fin]
        exact hQ
    refine ⟨fun σ H' => σ = [some (.ref q), some (.ref a), some (.int top), some (.ref D), some (.str z), some (.str v), some (.str b), some (.ref pa), some (.ref bk), some (.ref bs)] ∧ Kp [] H2 H', ?_, ?_⟩
    · refine ⟨_, rfl, rfl, _, rfl, ?_⟩
      by_cases hz : z = "look"
      · refine iteTs (decide_eq_true (congrArg V.str hz)) ?_
        rcases hlo with nz | ⟨_, y, dk, ts, hy, iy, rk, lt, ok⟩
        · exact absurd hz nz
        · refine ⟨_, rfl, q, dx, _, rfl, ho2, rfl, _, rfl, a, _, 3, y, rfl, rfl, SqT.of ha2, atI_nat (k := 3) hy, _, rfl, _, _, rfl, .inr ⟨_, SqT.of hb22, rfl⟩, _, rfl, q, D, y, dk, ts, ar, S, qq, m, ?_, hq2.o, iy.keep k12, rk, hD2, by omega, ok, fun H3 k3 => ⟨_, rfl, iteF ⟨rfl, k3⟩⟩⟩
          rw [List.length_map, lt]; rfl
      · exact iteFs (decide_eq_false fun e => hz (V.str.inj e)) (iteF ⟨rfl, Kp.refl _⟩)
    rintro σ H3 ⟨rfl, k3⟩
    have hq3 := hq2.kp0 k3
    have hb23 := k3.tp _ _ hb22
    have hb33 := k3.tp _ _ hb32
    obtain ⟨kd, hkd, KD⟩ := hD2.kp k3 (fun z => nomatch z)
    refine ⟨_, rfl, _, rfl, by show 3 ≤ sizeLine; decide, fun e3 he3 => ?_⟩
    have k4 : Kp [] H3 (upd H3 e3 (.tup [.bl true, .ref bk, .ref bs])) := Kp.new he3
    have h33 : upd H3 e3 (.tup [.bl true, .ref bk, .ref bs]) e3 = some (.tup [.bl true, .ref bk, .ref bs]) := upd_same
    generalize upd H3 e3 (.tup [.bl true, .ref bk, .ref bs]) = H4 at k4 h33
    have hkd4 := k4.at_ _ _ hkd (fun z => nomatch z)
    have KD4 := KD.imp fun _ _ => EntV.kp k4
    have kl := KD.len
    refine ⟨_, rfl, _, rfl, D, _, rfl, DPut.k (k := .inr v) hkd4 (by omega), ?_⟩
    rw [putK_new _ (KD4.none_ hv)]
    have kD : Kp [D] H4 (upd H4 D (.dK (kd ++ [(.inr v, .ref e3)]))) := Kp.set hkd4 (fun _ z => by cases z) (by simp)
    have hDD : upd H4 D (.dK (kd ++ [(.inr v, .ref e3)])) D = some (.dK (kd ++ [(.inr v, .ref e3)])) := upd_same
    have hq5 := (hq3.kp0 k4).kp kD (fun x hx => by rw [List.mem_singleton.mp hx]; exact ⟨Do, Dt', Db⟩)
    have KD5 := KD4.imp fun _ _ => EntV.kp kD
    have h35 := kD.tp _ _ h33
    have hb25 := kD.tp _ _ (k4.tp _ _ hb23)
    have hb35 := kD.tp _ _ (k4.tp _ _ hb33)
    have k05 : Kp [D] H (upd H4 D (.dK (kd ++ [(.inr v, .ref e3)]))) := ((k12.trans k3).trans k4).zero.trans kD
    generalize upd H4 D (.dK (kd ++ [(.inr v, .ref e3)])) = H5 at hDD hq5 KD5 h35 hb25 hb35 k05
    obtain ⟨⟨dx5, ho5⟩, T5, B5, ⟨kp5, hkp5, KP5⟩, hnm5, nd5⟩ := id hq5
    refine ⟨_, rfl, q, CC, dx5, _, _, rfl, ho5, cl, nn, rfl, .inl ⟨rfl, _, SqL.of hnm5⟩, _, rfl, ln, _, _, rfl, rfl, hnm5, by rw [List.length_map]; omega, ?_⟩
    have kN : Kp [ln] H5 (upd H5 ln (.lst (cs.nm.map V.str ++ [.str b]))) := Kp.updL hnm5 (by simp)
    have lnD : D ≠ ln := fun z => Do (by simp [ownC, z])
    have ne : ∀ {x : Addr} {o : HO}, H5 x = some o → (∀ l, o ≠ .lst l) → x ∉ [ln] := fun {x o} hx ho z => by
      rw [List.mem_singleton.mp z, hnm5] at hx
      cases hx
      exact ho _ rfl
    refine k _ ((k05.mono (by simp)).trans (kN.mono (by simp))) ⟨_, kN.at_ _ _ hDD (by simpa using lnD), ?_⟩ ⟨⟨dx5, kN.at_ _ _ ho5 (ne ho5 fun l z => by cases z)⟩, ?_, ?_, ⟨kp5, kN.at_ _ _ hkp5 (ne hkp5 fun l z => by cases z), KP5.kp kN fun x hx z => nd5.2.2.1 (by rw [← List.mem_singleton.mp z]; exact hx)⟩, by rw [upd_same, List.map_append]; rfl, nd5⟩
    · exact (KD5.imp fun _ _ => EntV.kp kN).snoc ⟨e3, bk, bs, rfl, kN.tp _ _ h35, kN.tp _ _ hb25, kN.tp _ _ hb35⟩
    · obtain ⟨kt, t1, t2⟩ := T5
      exact ⟨kt, kN.at_ _ _ t1 (ne t1 fun l z => by cases z), t2.imp fun _ _ => TabV.kp kN⟩
    · obtain ⟨kt, t1, t2⟩ := B5
      exact ⟨kt, kN.at_ _ _ t1 (ne t1 fun l z => by cases z), t2.imp fun _ _ => BlkV.kp kN⟩
end
end Fm

namespace Fm
open PySem PySem.Spec PyProof.Rows L2
/-! ### put -/
def spFitsPut (CC : Addr) : Sp := fun vs H Q _ => ∃ (q D dt db dp ln : Addr) (ls : List Addr) (E : CEnv) (cs : Cs) (top : Nat) (ar : Ar) (S : Addr → Prop) (qq : Bool) (n : Nat) (x : V) (d : PyData) (b : Str) (ts : List Tm) (adds : List (List Prd)), vs = [.ref q, x, .int top, .ref D] ∧ CkAt CC H q E cs dt db dp ln ls ∧ Dt S qq H n x d ∧ StD d (.put b ts adds) ∧ PutOk E cs top ar b ts adds ∧ ArAt H D ar ∧ ts.length ≤ 1000 ∧ cs.pu.length ≤ 1000 ∧ (∀ l, lkA cs.pu b = some l → l.length ≤ 1000) ∧
  ∀ ls' H', Kp (dp :: ls) H H' → (∀ x ∈ ls', x ∈ ls ∨ H x = none) → CkAt CC H' q E (cs.put b top) dt db dp ln ls' → Q (.bl true) H'
theorem inV_nats (i : Nat) (gs : List Nat) : inV (.int (i : Nat)) (gs.map fun n => V.int (n : Nat)) = decide (i ∈ gs) := by
  unfold inV
  rw [Bool.eq_iff_iff, List.any_eq_true, decide_eq_true_iff]
  constructor
  · rintro ⟨x, hx, e⟩
    obtain ⟨j, hj, rfl⟩ := List.mem_map.mp hx
    have e : ((j : Int) == (i : Int)) = true := e
    have : j = i := by have := eq_of_beq e; omega
    rw [← this]; exact hj
  · intro h
    exact ⟨_, List.mem_map.mpr ⟨i, h, rfl⟩, beq_self_eq_true (i : Int)⟩
theorem flat_nats (gs : List Nat) : (gs.map fun n => V.int (n : Nat)).all flatV = true := List.all_eq_true.mpr fun z hz => by
  obtain ⟨k, _, rfl⟩ := List.mem_map.mp hz
  rfl
theorem lkA_any {α : Type} {l : List (Str × α)} {s : Str} {a : α} (h : lkA l s = some a) : (l.any fun p => decide (p.1 = s)) = true := by
  unfold lkA at h
  obtain ⟨p, hp, rfl⟩ := Option.map_eq_some_iff.mp h
  have h0 := List.find?_some hp
  exact List.any_eq_true.mpr ⟨p, List.mem_of_find?_eq_some hp, h0⟩
theorem lkA_notin {α : Type} {l : List (Str × α)} {s : Str} (h : lkA l s = none) : s ∉ l.map (·.1) := fun z => by
  obtain ⟨p, hp, e⟩ := List.mem_map.mp z
  unfold lkA at h
  have := List.find?_eq_none.mp (Option.map_eq_none_iff.mp h) p hp
  exact this (decide_eq_true e)
theorem putA_some {α : Type} {l : List (Str × α)} {s : Str} {a b : α} (h : lkA l s = some a) : putA l s b = l.map fun p => if p.1 = s then (p.1, b) else p := by unfold putA; rw [if_pos (lkA_any h)]
theorem putA_none {α : Type} {l : List (Str × α)} {s : Str} {b : α} (h : lkA l s = none) : putA l s b = l ++ [(s, b)] := by
  unfold putA
  rw [if_neg]
  intro z
  obtain ⟨p, hp, e⟩ := List.any_eq_true.mp z
  exact lkA_notin h (List.mem_map.mpr ⟨p, hp, of_decide_eq_true e⟩)
theorem keys_upd {α : Type} {l : List (Str × α)} {s : Str} {b : α} : (l.map fun p => if p.1 = s then (p.1, b) else p).map (·.1) = l.map (·.1) := by
  rw [List.map_map]
  refine List.map_congr_left fun p _ => ?_
  show (if p.1 = s then (p.1, b) else p).1 = p.1
  split <;> rfl
theorem cut1 {a b c d : V} : cutV [a, b, c, d] (some 1) none = [b, c, d] := by
  unfold cutV
  have := HT.sIx_nat [a, b, c, d].length 0 1
  have e1 : ((1 : Nat) : Int) = 1 := rfl
  rw [e1] at this
  rw [this, HT.sIx_none]; rfl
theorem notWhole1 {a b c d : V} : ¬ (HT.sIx [a, b, c, d].length 0 (some 1) = 0 ∧ HT.sIx [a, b, c, d].length [a, b, c, d].length none = [a, b, c, d].length) := fun z => by
  have := HT.sIx_nat [a, b, c, d].length 0 1
  have e1 : ((1 : Nat) : Int) = 1 := rfl
  rw [e1] at this
  rw [this] at z
  have z := z.1
  simp at z
theorem Kp.viaM {ms ms' : List Addr} {H H1 H2 : Hp} (k1 : Kp ms H H1) (k2 : Kp ms' H1 H2) (h : ∀ x ∈ ms', x ∈ ms ∨ H x = none) : Kp ms H H2 :=
  ⟨fun c o e n => k2.at_ c o (k1.at_ c o e n) fun z => (h c z).elim n (fun z' => by rw [e] at z'; cases z'), fun c xs e => k2.tp c xs (k1.tp c xs e)⟩
section
variable {P : Program} {w : World} {K : PySem.W.Frag} {mg : Str → Option Value} {base : Heap}
theorem ok_fits_put {fT fR fP CC : Addr} {fdT fdR fdP : FuncData} (B : Bi mg) (F : Fun K "fits_put" "Checker.fits_put" s_Checker_fits_put fT fdT) (cl : Cls K CC) (nb : NoAttr K CC "blocks") (np : NoAttr K CC "putters") (nn : NoAttr K CC "named") (mR : Meth K CC "are_terms" fR) (GR : FnOk P w K mg base CX0 4 fR fdR ["self", "thing", "many", "around"] (spTerms CC)) (bR : Binds K fdR ["self", "thing", "many", "around"] [])
    (mP : Meth K CC "is_product" fP) (GP : FnOk P w K mg base CX0 3 fP fdP ["self", "thing", "around"] (spProduct CC)) (bP : Binds K fdP ["self", "thing", "around"] []) (G_is_row : Has P w K mg base CX0 "is_row" ["thing"] 1 spIsRow) : FnOk P w K mg base CX0 5 fT fdT ["self", "statement", "top", "around"] (spFitsPut CC) := by
  refine F.ok sc_Checker_fits_put (fun vs H Q E h => ?_) (fun cdv A outer s H vs Q E hr h => ?_)
  · obtain ⟨q, D, dt, db, dp, ln, ls, E, cs, top, ar, S, qq, n, x, d, b, ts, adds, rfl, _⟩ := h; rfl
  · obtain ⟨q, D, dt, db, dp, ln, ls, CE, cs, top, ar, S, qq, n, x, d, b, ts, adds, rfl, hq, hx, hd, hok, hD, lts, lpu, lpl, k⟩ := h
    have hu := hu_of hr
    refine ⟨_, (pss_cons (ps_asg (pe_slice sl_tup (pv 1) (po_some pe_int) po_none) (pg_tup rfl (pgs_cons (pg_name (i := 4) sc_Checker_fits_put.nd rfl (by first | exact Or.inl rfl | exact Or.inr rfl)) (pgs_cons (pg_name (i := 5) sc_Checker_fits_put.nd rfl (by first | exact Or.inl rfl | exact Or.inr rfl)) (pgs_cons (pg_name (i := 6) sc_Checker_fits_put.nd rfl (by first | exact Or.inl rfl | exact Or.inr rfl)) pgs_nil)))))
  (pss_cons (ps_if (PW.pt (pw_or (pt_not (pt_val (pe_callB call_isi (by rfl) B.isinstance (by decide +kernel) (pa_cons (pv 4) (pa_cons (pe_bltn (v := .ty "str") (by rfl) B.str (by decide +kernel) rfl) pa_nil))))) (pw_or (pt_cmp (pc_dnotin hu (pv 4) (pe_fld (pv 0) rfl)) rfl) (pw_or1 (pt_cmpR (r := rIn K false) op_in_seq (pv 4) (pe_fld (pv 0) rfl) (by rfl))))))
  (pss_one (ps_ret pe_bl))
  pss_nil)
  (pss_cons (ps_asg (pe_dget hu (pe_fld (pv 0) rfl) (pv 4) (fun _ _ => rfl)) (pg_tup rfl (pgs_cons (pg_name (i := 7) sc_Checker_fits_put.nd rfl (by first | exact Or.inl rfl | exact Or.inr rfl)) (pgs_cons (pg_name (i := 8) sc_Checker_fits_put.nd rfl (by first | exact Or.inl rfl | exact Or.inr rfl)) pgs_nil))))
  (pss_cons (ps_if (PW.pt (pw_or (pt_not (pt_val (pe_meth (E := E0) (pv 0) cl mR GR (hr.mono (by omega)) bR .nil pass0 (pa_cons (pv 5) (pa_cons (pe_callB call_len (by rfl) B.len PySem.boot_len (pa_cons (pv 7) pa_nil)) (pa_cons (pv 3) pa_nil)))))) (pw_or (pt_not (pt_val (pe_has G_is_row (hr.mono (by omega)) (pa_cons (pv 6) pa_nil)))) (pw_or1 (pt_cmpR op_ne (pe_callB call_len (by rfl) B.len PySem.boot_len (pa_cons (pv 6) pa_nil)) (pe_callB call_len (by rfl) B.len PySem.boot_len (pa_cons (pv 8) pa_nil)) (nomark _))))))
  (pss_one (ps_ret pe_bl))
  pss_nil)
  (pss_cons (ps_for PassesOwn.never rfl (pi_or (pi_list (pv 6)) (pi_tup (pv 6))) (pg_name (i := 9) sc_Checker_fits_put.nd rfl (by first | exact Or.inl rfl | exact Or.inr rfl))
  (pss_cons (ps_if (PW.pt (pw_or (pt_not (pt_val (pe_has G_is_row (hr.mono (by omega)) (pa_cons (pv 9) pa_nil)))) (pw_or1 (pt_cmpR op_gt (pe_callB call_len (by rfl) B.len PySem.boot_len (pa_cons (pv 9) pa_nil)) pe_int (nomark _)))))
  (pss_one (ps_ret pe_bl))
  pss_nil)
  (pss_one (ps_for PassesOwn.never rfl (pi_or (pi_list (pv 9)) (pi_tup (pv 9))) (pg_name (i := 10) sc_Checker_fits_put.nd rfl (by first | exact Or.inl rfl | exact Or.inr rfl))
  (pss_one (ps_if (pt_not (pt_val (pe_meth (E := E0) (pv 0) cl mP GP (hr.mono (by omega)) bP .nil pass0 (pa_cons (pv 10) (pa_cons (pv 3) pa_nil)))))
  (pss_one (ps_ret pe_bl))
  pss_nil))))))
  (pss_cons (ps_set (i := 11) sc_Checker_fits_put.nd rfl (by first | exact Or.inl rfl | exact Or.inr rfl) (pe_dsetd (pe_fld (pv 0) rfl) (pv 4) (pe_lst pa_nil) ⟨rfl, rfl, rfl, rfl⟩))
  (pss_cons (ps_if (pt_cmpR (r := rIn K false) op_in_seq (pv 2) (pv 11) (by rfl))
  (pss_one (ps_ret pe_bl))
  pss_nil)
  (pss_cons (ps_expr (pe_bm PySem.F.plainAttrs_list PySem.F.slot_list_append PySem.F.type_list_append mt_append (pv 11) (pa_cons (pv 2) pa_nil)))
  (pss_one (ps_ret pe_bl)))))))))), ?_⟩
    have hsz : sizeLine = 16777216 := rfl
    obtain ⟨ks, ss, hbk, nnm, ltk, okt, las, oka, ntop⟩ := hok
    cases hd with
    | put r1 r2 r3 =>
    rename_i dk da es
    obtain ⟨a, m, xs, rfl, rfl, ha, g0⟩ := Dt.tupI hx
    obtain ⟨v1, w1, rfl, h1, g1⟩ := g0.consI
    obtain ⟨v2, w2, rfl, h2, g2⟩ := g1.consI
    obtain ⟨v3, w3, rfl, h3, g3⟩ := g2.consI
    obtain ⟨v4, w4, rfl, h4, g4⟩ := g3.consI
    have e := h1.strI.1; subst e
    have e := h2.strI.1; subst e
    have e := g4.nilI; subst e
    refine ⟨_, rfl, 1, rfl, a, _, rfl, SqT.of ha, notWhole1, fun e he => ?_⟩
    rw [cut1]
    have k1 : Kp [] H (upd H e (.tup [.str b, v3, v4])) := Kp.new he
    have hee : upd H e (.tup [.str b, v3, v4]) e = some (.tup [.str b, v3, v4]) := upd_same
    generalize upd H e (.tup [.str b, v3, v4]) = H1 at k1 hee
    have hq1 := hq.kp0 k1
    have hD1 := hD.kp k1 (fun z => nomatch z)
    obtain ⟨⟨dx, ho⟩, _, ⟨kb, hkb, KB⟩, _, hnm, nd⟩ := id hq1
    obtain ⟨bv, hval, ba, bk, bs, rfl, hb1, hb2, hb3⟩ := KB.some_ hbk
    refine ⟨e, _, rfl, SqT.of hee, rfl, _, _, rfl, _, _, rfl, _, _, rfl, rfl, ?_⟩
    refine ⟨_, rfl, _, _, _, _, _, rfl, .ty _, str_ty, kit_ty kb_strS, _, rfl, iteF ?_⟩
    refine ⟨_, rfl, _, rfl, q, CC, dx, _, _, rfl, ho, cl, nb, rfl, db, _, rfl, .inl ⟨_, .inr b, .inl hkb, rfl, rfl⟩, _, rfl, ?_⟩
    rw [hval]
    refine iteF ?_
    refine ⟨_, rfl, _, rfl, q, CC, dx, _, _, rfl, ho, cl, nn, rfl, ln, _, rfl, .inl (SqL.of hnm), rfl, flat_strsQ cs.nm, _, rfl, ?_⟩
    rw [inV_strsQ, decide_eq_false nnm]
    refine iteF ?_
    refine ⟨_, rfl, q, CC, dx, _, _, rfl, ho, cl, nb, rfl, _, rfl, db, _, rfl, .inl ⟨_, .inr b, .inl hkb, rfl, hval.symm⟩, ?_⟩
    refine ⟨ba, _, rfl, SqT.of hb1, rfl, _, _, rfl, _, _, rfl, rfl, ?_⟩
    refine ⟨_, rfl, q, dx, _, rfl, ho, rfl, _, rfl, _, rfl, _, _, rfl, .inr ⟨_, SqT.of hb2, rfl⟩, _, rfl, q, D, v3, dk, ts, ar, S, qq, m, by rw [List.length_map, ltk]; rfl, hq1.o, h3.keep k1, r1, hD1, lts, okt, fun H2 k2 => ⟨_, rfl, iteF ?_⟩⟩
    have k12 := k1.trans k2
    refine ⟨_, rfl, S, qq, m, v4, da, rfl, h4.keep k12, fun H3 k3 => ⟨_, rfl, ?_⟩⟩
    rw [isRow_of r2]
    refine iteF ?_
    have k13 := k12.trans k3
    obtain ⟨m2, p, ys, rfl, rfl, rx, lx, _, ax⟩ := (h4.keep k13).rowI r2
    have lys : ys.length = adds.length := by rw [ax.len, r3.len]
    have hb33 := (k2.trans k3).tp _ _ hb3
    refine ⟨_, rfl, _, _, rfl, rx.len, _, rfl, _, _, rfl, .inr ⟨_, SqT.of hb33, rfl⟩, rfl, _, rfl, iteFs ?_ ?_⟩
    · rw [List.length_map, lys, las]; simp
    have hq3 := hq.kp0 k13
    have hD3 := hD.kp k13 (fun z => nomatch z)
    obtain ⟨dx3, ho3⟩ := hq3.obj
    refine for_rows (te := tVar 6) (fun Q h => ⟨_, rfl, h⟩) rx (fun i σ H' => (∃ o9 o10, σ = [some (.ref q), some (.ref a), some (.int top), some (.ref D), some (.str b), some v3, some (.ref p), some (.ref bk), some (.ref bs), o9, o10, none]) ∧ Kp [] H3 H') ⟨⟨_, _, rfl⟩, Kp.refl _⟩ (fun i σ H' h => ⟨[], h.2, fun z => nomatch z⟩) ?_ ?_
    · rintro i u σ H4 ⟨⟨o9, o10, rfl⟩, k4⟩ hu1
      obtain ⟨e1, he1, iu⟩ := ax.getV hu1
      obtain ⟨ps, hps, prs⟩ := r3.getA he1
      obtain ⟨fs, rfs, afs⟩ := prs
      obtain ⟨l4, okp⟩ := oka ps (List.mem_of_getElem? hps)
      refine ⟨_, rfl, S, qq, m2, u, e1, rfl, iu.keep k4, fun H5 k5 => ⟨_, rfl, ?_⟩⟩
      rw [isRow_of rfs]
      refine iteF ?_
      have k45 := k4.trans k5
      obtain ⟨m3, pp, zs, rfl, rfl, rz, lz, _, az⟩ := (iu.keep k45).rowI rfs
      have lzs : zs.length = ps.length := by rw [az.len, afs.len]
      refine ⟨_, rfl, _, _, rfl, rz.len, _, _, rfl, rfl, _, rfl, iteFs (decide_eq_false (by omega)) ?_⟩
      refine for_rows (te := tVar 9) (fun Q h => ⟨_, rfl, h⟩) rz (fun j σ H' => (∃ o10, σ = [some (.ref q), some (.ref a), some (.int top), some (.ref D), some (.str b), some v3, some (.ref p), some (.ref bk), some (.ref bs), some (.ref pp), o10, none]) ∧ Kp [] H5 H') ⟨⟨_, rfl⟩, Kp.refl _⟩ (fun j σ H' h => ⟨[], h.2, fun z => nomatch z⟩) ?_ ?_
      · rintro j u2 σ H6 ⟨⟨o10', rfl⟩, k6⟩ hu2
        obtain ⟨e2, he2, iu2⟩ := az.getV hu2
        obtain ⟨pr, hpr, prd⟩ := afs.getA he2
        have k36 := k45.trans k6
        exact ⟨_, rfl, q, dx3, _, rfl, k36.at_ _ _ ho3 (fun z => nomatch z), rfl, _, rfl, _, rfl, q, D, u2, e2, pr, ar, S, qq, m3, rfl, hq3.o.kp k36, iu2.keep k6, prd, hD3.kp k36 (fun z => nomatch z), okp pr (List.mem_of_getElem? hpr), fun H7 k7 => ⟨_, rfl, iteF ⟨⟨_, rfl⟩, k6.trans k7⟩⟩⟩
      · rintro σ H6 ⟨⟨o10', rfl⟩, k6⟩
        exact ⟨⟨_, _, rfl⟩, k45.trans k6⟩
    · rintro σ H4 ⟨⟨o9, o10, rfl⟩, k4⟩
      have k04 := k13.trans k4
      have hq4 := hq3.kp0 k4
      obtain ⟨⟨dx4, ho4⟩, T4, B4, ⟨kp, hkp, KP⟩, hnm4, nd4⟩ := id hq4
      have lkp := KP.len
      refine ⟨_, rfl, q, CC, dx4, _, _, rfl, ho4, cl, np, rfl, dp, rfl, .inl ⟨_, .inl hkp⟩, _, rfl, by show 0 ≤ sizeLine; decide, fun e1 he1 => ?_⟩
      have k5 : Kp [] H4 (upd H4 e1 (.lst [])) := Kp.new he1
      have h11 : upd H4 e1 (.lst []) e1 = some (.lst []) := upd_same
      have hq5 := hq4.kp0 k5
      have e1H : H e1 = none := k04.same.free he1
      have e1ls : e1 ∉ ls := fun z => by
        obtain ⟨i, hi⟩ := List.mem_iff_getElem?.mp z
        have : ∀ {kvs : List (Key × V)} {l : List (Str × List Nat)} {ls : List Addr}, PuA H4 kvs l ls → e1 ∈ ls → False := by
          intro kvs l ls h
          induction h with
          | nil => intro z; cases z
          | cons ha _ ih =>
            intro z
            rcases List.mem_cons.mp z with rfl | z
            · rw [he1] at ha; cases ha
            · exact ih z
        exact this KP z
      have k05 := k04.trans k5
      have e1ln : e1 ≠ ln := fun z => by rw [z, hnm4] at he1; cases he1
      have e1o : ∀ {x : Addr} {o : HO}, H4 x = some o → x ≠ e1 := fun {x o} h z => by rw [z, he1] at h; cases h
      have dpe := e1o hkp
      generalize upd H4 e1 (.lst []) = H5 at k5 h11 hq5 k05
      obtain ⟨⟨dx5, ho5⟩, ⟨kt, hkt, KT⟩, ⟨kb5, hkb5, KB5⟩, ⟨kp5, hkp5, KP5⟩, hnm5, nd5⟩ := id hq5
      have ekp : kp5 = kp := by
        have := k5.at_ _ _ hkp (fun z => nomatch z)
        rw [hkp5] at this
        cases this; rfl
      subst ekp
      refine ⟨kp5, .inr b, hkp5, rfl, by omega, fun v hv => ?_, fun hv => ?_⟩
      · rcases KP5.val b with ⟨_, e'⟩ | ⟨pa, ns, ep, hpv, hpl, hpa⟩
        · rw [hv] at e'; cases e'
        rw [hv] at hpv
        cases hpv
        have lns := lpl ns ep
        have nt : top ∉ ns := by rw [ep] at ntop; exact ntop
        refine ⟨_, rfl, _, rfl, pa, _, rfl, .inl (SqL.of hpa), rfl, flat_nats ns, _, rfl, ?_⟩
        rw [inV_nats, decide_eq_false nt]
        refine iteF ⟨_, rfl, .inl ⟨rfl, _, SqL.of hpa⟩, _, rfl, pa, _, _, rfl, rfl, hpa, by rw [List.length_map]; omega, ?_⟩
        have kA : Kp [pa] H5 (upd H5 pa (.lst (ns.map (fun n => V.int (n : Nat)) ++ [.int (top : Nat)]))) := Kp.updL hpa (by simp)
        have hAA : upd H5 pa (.lst (ns.map (fun n => V.int (n : Nat)) ++ [.int (top : Nat)])) pa = some (.lst ((ns ++ [top]).map fun n => V.int (n : Nat))) := by rw [upd_same, List.map_append]; rfl
        have ne : ∀ {x : Addr} {o : HO}, H5 x = some o → (∀ l, o ≠ .lst l) → x ∉ [pa] := fun {x o} hx ho z => by
          rw [List.mem_singleton.mp z, hpa] at hx
          cases hx
          exact ho _ rfl
        have epu : (cs.put b top).pu = cs.pu.map fun p => if p.1 = b then (p.1, ns ++ [top]) else p := by
          show putA cs.pu b ((lkA cs.pu b).getD [] ++ [top]) = _
          rw [putA_some ep, ep]; rfl
        refine k ls _ ((k05.mono (fun _ h => nomatch h)).trans (kA.mono (by simp [hpl]))) (fun x hx => .inl hx) ⟨⟨dx5, kA.at_ _ _ ho5 (ne ho5 fun l z => by cases z)⟩, ⟨kt, kA.at_ _ _ hkt (ne hkt fun l z => by cases z), KT.imp fun _ _ => TabV.kp kA⟩, ⟨kb5, kA.at_ _ _ hkb5 (ne hkb5 fun l z => by cases z), KB5.imp fun _ _ => BlkV.kp kA⟩, ⟨kp5, kA.at_ _ _ hkp5 (ne hkp5 fun l z => by cases z), ?_⟩, kA.at_ _ _ hnm5 (fun z => nd5.2.2.1 (by rw [List.mem_singleton.mp z]; exact hpl)), nd5.1, ?_, nd5.2.2⟩
        · rw [epu]
          exact KP5.upd kA hAA nd5.1 nd5.2.1 hv
        · rw [epu, keys_upd]; exact nd5.2.1
      · have ep : lkA cs.pu b = none := by
          rcases KP5.val b with ⟨e', _⟩ | ⟨pa, ns, ep, hpv, _⟩
          · exact e'
          · rw [hv] at hpv; cases hpv
        rw [putK_new _ hv]
        have kD : Kp [dp] H5 (upd H5 dp (.dK (kp5 ++ [(.inr b, .ref e1)]))) := Kp.set hkp5 (fun _ z => by cases z) (by simp)
        have h1D := kD.at_ _ _ h11 (by simpa using Ne.symm dpe)
        have hDD : upd H5 dp (.dK (kp5 ++ [(.inr b, .ref e1)])) dp = some (.dK (kp5 ++ [(.inr b, .ref e1)])) := upd_same
        have neD : ∀ {x : Addr} {o : HO}, H5 x = some o → (∀ l, o ≠ .dK l) → x ∉ [dp] := fun {x o} hx ho z => by
          rw [List.mem_singleton.mp z, hkp5] at hx
          cases hx
          exact ho _ rfl
        have epu : (cs.put b top).pu = cs.pu ++ [(b, [top])] := by
          show putA cs.pu b ((lkA cs.pu b).getD [] ++ [top]) = _
          rw [putA_none ep, ep]; rfl
        generalize upd H5 dp (.dK (kp5 ++ [(.inr b, .ref e1)])) = H6 at kD h1D hDD
        refine ⟨_, rfl, _, rfl, e1, _, rfl, .inl (SqL.of h1D), rfl, rfl, _, rfl, iteF ⟨_, rfl, .inl ⟨rfl, _, SqL.of h1D⟩, _, rfl, e1, _, _, rfl, rfl, h1D, by show 0 < sizeLine; decide, ?_⟩⟩
        have k0D : Kp [dp] H H6 := (k05.mono (fun _ h => nomatch h)).trans kD
        have kA : Kp [e1] H6 (upd H6 e1 (.lst ([] ++ [.int (top : Nat)]))) := Kp.updL h1D (by simp)
        have hAA : upd H6 e1 (.lst ([] ++ [.int (top : Nat)])) e1 = some (.lst ([top].map fun n => V.int (n : Nat))) := by rw [upd_same]; rfl
        generalize upd H6 e1 (.lst ([] ++ [.int (top : Nat)])) = H7 at kA hAA
        have ne1 : ∀ {x : Addr} {o : HO}, H5 x = some o → (∀ l, o ≠ .lst l) → x ∉ [e1] := fun {x o} hx ho z => by
          rw [List.mem_singleton.mp z, h11] at hx
          cases hx
          exact ho _ rfl
        have up : ∀ {x : Addr} {o : HO}, H5 x = some o → (∀ l, o ≠ .lst l) → (∀ l, o ≠ .dK l) → H7 x = some o := fun {x o} hx h1 h2 => kA.at_ _ _ (kD.at_ _ _ hx (neD hx h2)) (ne1 hx h1)
        have k57 : Kp [dp, e1] H5 H7 := (kD.mono (by simp)).trans (kA.mono (by simp))
        have k07 : Kp (dp :: ls) H H7 := (k0D.viaM kA fun x hx => .inr (by rw [List.mem_singleton.mp hx]; exact e1H)).mono (by simp)
        have nw : ∀ {x : Addr} {o : HO}, H5 x = some o → (∀ l, o ≠ .dK l) → x ≠ e1 → H7 x = some o := fun {x o} hx h1 h2 => kA.at_ _ _ (kD.at_ _ _ hx (neD hx h1)) (by simpa using h2)
        have nw : ∀ {x : Addr} {o : HO}, H5 x = some o → (∀ l, o ≠ .dK l) → x ≠ e1 → H7 x = some o := fun {x o} hx h1 h2 => kA.at_ _ _ (kD.at_ _ _ hx (neD hx h1)) (by simpa using h2)
        refine k (ls ++ [e1]) _ k07 (fun x hx => (List.mem_append.mp hx).imp id fun z => by rw [List.mem_singleton.mp z]; exact e1H) ⟨⟨dx5, up ho5 (fun l z => by cases z) (fun l z => by cases z)⟩, ⟨kt, kA.at_ _ _ (kD.at_ _ _ hkt (by simpa using Ne.symm nd5.2.2.2.1)) (ne1 hkt fun l z => by cases z), KT.imp fun _ _ => TabV.kp k57⟩, ⟨kb5, kA.at_ _ _ (kD.at_ _ _ hkb5 (by simpa using Ne.symm nd5.2.2.2.2)) (ne1 hkb5 fun l z => by cases z), KB5.imp fun _ _ => BlkV.kp k57⟩, ⟨kp5 ++ [(.inr b, .ref e1)], kA.at_ _ _ hDD (by simpa using dpe), ?_⟩, nw hnm5 (fun l z => by cases z) (Ne.symm e1ln), ?_, ?_, ?_, nd5.2.2.2⟩
        · have KP6 : PuA H7 kp5 cs.pu ls := KP5.kp k57 fun x hx z => by
            rcases List.mem_cons.mp z with rfl | z
            · have : ∀ {kvs : List (Key × V)} {l : List (Str × List Nat)} {ls : List Addr}, PuA H5 kvs l ls → x ∈ ls → False := by
                intro kvs l ls h
                induction h with
                | nil => intro z; cases z
                | cons ha _ ih =>
                  intro z
                  rcases List.mem_cons.mp z with rfl | z
                  · rw [hkp5] at ha; cases ha
                  · exact ih z
              exact this KP5 hx
            · exact e1ls (by rw [← List.mem_singleton.mp z]; exact hx)
          rw [epu]
          exact KP6.snoc hAA
        · refine List.nodup_append.mpr ⟨nd5.1, by simp, fun x hx y hy z => ?_⟩
          rw [List.mem_singleton.mp hy] at z
          exact e1ls (by rw [← z]; exact hx)
        · rw [epu, List.map_append]
          refine List.nodup_append.mpr ⟨nd5.2.1, by simp, fun x hx y hy z => ?_⟩
          have : y = b := by simpa using hy
          rw [this] at z
          exact lkA_notin ep (by rw [← z]; exact hx)
        · intro z
          rcases List.mem_append.mp z with z | z
          · exact nd5.2.2.1 z
          · exact e1ln (List.mem_singleton.mp z).symm
end
end Fm

namespace Fm
open PySem PySem.Spec PyProof.Rows L2
/-! ### fits -/
inductive Fit (E : CEnv) (top : Nat) : Ar → Cs → Stm → Ar → Cs → Prop
  | put {ar : Ar} {cs : Cs} {b : Str} {ts : List Tm} {adds : List (List Prd)} : PutOk E cs top ar b ts adds → Fit E top ar cs (.put b ts adds) ar (cs.put b top)
  | same {ar : Ar} {cs : Cs} {a b : Tm} {body : List Stm} : TmOk ar a → TmOk ar b → Fit E top ar cs (.same a b body) ar cs
  | tab {ar : Ar} {cs : Cs} {s : Stm} {v : Str} {fs : List Str} : IsNm v → lkA ar v = none → TabSt E ar s v fs → Fit E top ar cs s (ar ++ [(v, false, fs, [])]) cs
  | ent {ar : Ar} {cs : Cs} {s : Stm} {v b : Str} {ks ss : List Str} : IsNm v → lkA ar v = none → EntSt E cs top ar s v b ks ss → Fit E top ar cs s (ar ++ [(v, true, ks, ss)]) { cs with nm := cs.nm ++ [b] }
theorem tab_head {E : CEnv} {ar : Ar} {S : Addr → Prop} {qq : Bool} {H : Hp} {n : Nat} {x : V} {d : PyData} {s : Stm} {v : Str} {fs : List Str} (hx : Dt S qq H n x d) (hd : StD d s) (h : TabSt E ar s v fs) : ∃ a z rest, x = .ref a ∧ H a = some (.tup (.str z :: .str v :: rest)) ∧ z ∈ (["scan", "run", "seek"] : List Str) := by
  obtain ⟨t, body, ht, h⟩ := h
  rcases h with rfl | ⟨f, rfl, hf⟩ | ⟨f, tm, rfl, hf, ok⟩ <;> cases hd <;>
  · obtain ⟨a, m, xs, rfl, rfl, ha, g0⟩ := Dt.tupI hx
    obtain ⟨v1, w1, rfl, h1, g1⟩ := g0.consI
    obtain ⟨v2, w2, rfl, h2, g2⟩ := g1.consI
    have e := h1.strI.1; subst e
    have e := h2.strI.1; subst e
    exact ⟨a, _, _, rfl, ha, by decide⟩
theorem ent_head {E : CEnv} {cs : Cs} {top : Nat} {ar : Ar} {S : Addr → Prop} {qq : Bool} {H : Hp} {n : Nat} {x : V} {d : PyData} {s : Stm} {v b : Str} {ks ss : List Str} (hx : Dt S qq H n x d) (hd : StD d s) (h : EntSt E cs top ar s v b ks ss) : ∃ a z rest, x = .ref a ∧ H a = some (.tup (.str z :: .str v :: rest)) ∧ z ∉ (["same", "put", "scan", "run", "seek"] : List Str) := by
  obtain ⟨_, body, h⟩ := h
  rcases h with rfl | ⟨f, rfl, hf⟩ | ⟨ts, rfl, lt, ok⟩ <;> cases hd <;>
  · obtain ⟨a, m, xs, rfl, rfl, ha, g0⟩ := Dt.tupI hx
    obtain ⟨v1, w1, rfl, h1, g1⟩ := g0.consI
    obtain ⟨v2, w2, rfl, h2, g2⟩ := g1.consI
    have e := h1.strI.1; subst e
    have e := h2.strI.1; subst e
    exact ⟨a, _, _, rfl, ha, by decide⟩
theorem in3W (z : Str) : inV (.str z) [.str "scan", .str "run", .str "seek"] = decide (z ∈ (["scan", "run", "seek"] : List Str)) := inV_strsQ z ["scan", "run", "seek"]
/-- how much there may be -/
def CEnvS (E : CEnv) : Prop := ∀ b ks ss, lkA E.blks b = some (ks, ss) → ks.length ≤ 1000
def CsS (m : Nat) (cs : Cs) : Prop := cs.pu.length ≤ m ∧ (∀ b l, lkA cs.pu b = some l → l.length ≤ m) ∧ cs.nm.length ≤ m
def spFits (CC : Addr) : Sp := fun vs H Q _ => ∃ (q D dt db dp ln : Addr) (ls : List Addr) (E : CEnv) (cs cs' : Cs) (top : Nat) (ar ar' : Ar) (S : Addr → Prop) (qq : Bool) (n : Nat) (x : V) (d : PyData) (s : Stm), vs = [.ref q, x, .int top, .ref D] ∧ CkAt CC H q E cs dt db dp ln ls ∧ Dt S qq H n x d ∧ StD d s ∧ Fit E top ar cs s ar' cs' ∧ ArAt H D ar ∧ ar.length ≤ 100 ∧ CEnvS E ∧ CsS 1000 cs ∧ D ∉ ownC q dp ln ls ∧ D ≠ dt ∧ D ≠ db ∧
  ∀ ls' H', Kp (D :: dp :: ln :: ls) H H' → (∀ x ∈ ls', x ∈ ls ∨ H x = none) → ArAt H' D ar' → CkAt CC H' q E cs' dt db dp ln ls' → Q (.bl true) H'
section
variable {P : Program} {w : World} {K : PySem.W.Frag} {mg : Str → Option Value} {base : Heap}
theorem ok_fits {fT fI fP fB fE CC : Addr} {fdT fdI fdP fdB fdE : FuncData} (B : Bi mg) (F : Fun K "fits" "Checker.fits" s_Checker_fits fT fdT) (cl : Cls K CC)
    (mI : Meth K CC "is_term" fI) (GI : FnOk P w K mg base CX0 3 fI fdI ["self", "thing", "around"] (spTerm CC)) (bI : Binds K fdI ["self", "thing", "around"] [])
    (mP : Meth K CC "fits_put" fP) (GP : FnOk P w K mg base CX0 5 fP fdP ["self", "statement", "top", "around"] (spFitsPut CC)) (bP' : Binds K fdP ["self", "statement", "top", "around"] [])
    (mB : Meth K CC "fits_table" fB) (GB : FnOk P w K mg base CX0 4 fB fdB ["self", "statement", "around"] (spFitsTab CC)) (bB : Binds K fdB ["self", "statement", "around"] [])
    (mE : Meth K CC "fits_entry" fE) (GE : FnOk P w K mg base CX0 5 fE fdE ["self", "statement", "top", "around"] (spFitsEnt CC)) (bE : Binds K fdE ["self", "statement", "top", "around"] [])
    (G_is_name : Has P w K mg base CX0 "is_name" ["thing"] 1 spIsName) : FnOk P w K mg base CX0 6 fT fdT ["self", "statement", "top", "around"] (spFits CC) := by
  refine F.ok sc_Checker_fits (fun vs H Q E h => ?_) (fun cdv A outer s H vs Q E hr h => ?_)
  · obtain ⟨q, D, dt, db, dp, ln, ls, E, cs, cs', top, ar, ar', S, qq, n, x, d, st, rfl, _⟩ := h; rfl
  · obtain ⟨q, D, dt, db, dp, ln, ls, CE, cs, cs', top, ar, ar', S, qq, n, x, d, st, rfl, hq, hx, hd, hf, hD, la, ES, CS, Do, Dt', Db, k⟩ := h
    have hu := hu_of hr
    refine ⟨_, (pss_cons (ps_set (i := 4) sc_Checker_fits.nd rfl (by first | exact Or.inl rfl | exact Or.inr rfl) (pe_ix (r := rIxT K) ix_tup (pv 1) pe_int (fun _ _ => rfl)))
  (pss_cons (ps_if (pt_cmpR op_eq (pv 4) pe_str (nomark _))
  (pss_one (ps_ret (pe_and (pe_meth (E := E0) (pv 0) cl mI GI (hr.mono (by omega)) bI .nil pass0 (pa_cons (pe_ix (r := rIxT K) ix_tup (pv 1) pe_int (fun _ _ => rfl)) (pa_cons (pv 3) pa_nil))) (pe_one (pe_meth (E := E0) (pv 0) cl mI GI (hr.mono (by omega)) bI .nil pass0 (pa_cons (pe_ix (r := rIxT K) ix_tup (pv 1) pe_int (fun _ _ => rfl)) (pa_cons (pv 3) pa_nil)))))))
  pss_nil)
  (pss_cons (ps_if (pt_cmpR op_eq (pv 4) pe_str (nomark _))
  (pss_one (ps_ret (pe_meth (E := E0) (pv 0) cl mP GP (hr.mono (by omega)) bP' .nil pass0 (pa_cons (pv 1) (pa_cons (pv 2) (pa_cons (pv 3) pa_nil))))))
  pss_nil)
  (pss_cons (ps_if (PW.pt (pw_or (pt_not (pt_val (pe_has G_is_name (hr.mono (by omega)) (pa_cons (pe_ix (r := rIxT K) ix_tup (pv 1) pe_int (fun _ _ => rfl)) pa_nil)))) (pw_or1 (pt_cmp (pc_din hu (pe_ix (r := rIxT K) ix_tup (pv 1) pe_int (fun _ _ => rfl)) (pv 3)) rfl))))
  (pss_one (ps_ret pe_bl))
  pss_nil)
  (pss_cons (ps_if (pt_cmpR (r := rIn K false) op_in_seq (pv 4) (pe_tup (pa_cons pe_str (pa_cons pe_str (pa_cons pe_str pa_nil)))) (by rfl))
  (pss_one (ps_ret (pe_meth (E := E0) (pv 0) cl mB GB (hr.mono (by omega)) bB .nil pass0 (pa_cons (pv 1) (pa_cons (pv 3) pa_nil)))))
  pss_nil)
  (pss_one (ps_ret (pe_meth (E := E0) (pv 0) cl mE GE (hr.mono (by omega)) bE .nil pass0 (pa_cons (pv 1) (pa_cons (pv 2) (pa_cons (pv 3) pa_nil))))))))))), ?_⟩
    have hsz : sizeLine = 16777216 := rfl
    obtain ⟨dx, ho⟩ := hq.obj
    cases hf with
    | put ok =>
      cases id hd with
      | put r1 r2 r3 =>
      obtain ⟨a, m, xs, rfl, rfl, ha, g0⟩ := Dt.tupI hx
      obtain ⟨v1, w1, rfl, h1, g1⟩ := g0.consI
      have e := h1.strI.1; subst e
      have hT : SqT K H a (.str "put" :: w1) := SqT.of ha
      refine ⟨_, rfl, a, _, 0, .str "put", rfl, rfl, hT, at0, ?_⟩
      refine ⟨_, rfl, rfl, _, rfl, iteFs rfl ?_⟩
      refine ⟨_, rfl, rfl, _, rfl, iteTs rfl ?_⟩
      obtain ⟨ks, ss, o1, o2, o3, _⟩ := id ok
      refine ⟨_, rfl, q, dx, _, rfl, ho, rfl, _, rfl, _, rfl, _, rfl, q, D, dt, db, dp, ln, ls, CE, cs, top, ar, S, qq, m + 1, .ref a, _, _, _, _, rfl, hq, hx, hd, ok, hD, by have := ES _ _ _ o1; omega, CS.1, fun l hl => CS.2.1 _ l hl, fun ls' H1 k1 new hq1 => ?_⟩
      exact k ls' H1 (k1.mono fun x hx => by rcases List.mem_cons.mp hx with rfl | hx <;> simp [*]) new (hD.kp k1 fun z => Do (by rcases List.mem_cons.mp z with rfl | z <;> simp [ownC, *])) hq1
    | same oa ob =>
      cases id hd with
      | same r1 r2 =>
      obtain ⟨a, m, xs, rfl, rfl, ha, g0⟩ := Dt.tupI hx
      obtain ⟨v1, w1, rfl, h1, g1⟩ := g0.consI
      obtain ⟨v2, w2, rfl, h2, g2⟩ := g1.consI
      obtain ⟨v3, w3, rfl, h3, g3⟩ := g2.consI
      have e := h1.strI.1; subst e
      have hT : SqT K H a (.str "same" :: v2 :: v3 :: w3) := SqT.of ha
      refine ⟨_, rfl, a, _, 0, .str "same", rfl, rfl, hT, at0, ?_⟩
      refine ⟨_, rfl, rfl, _, rfl, iteTs rfl ?_⟩
      refine ⟨_, rfl, q, dx, _, rfl, ho, rfl, _, rfl, a, _, 1, v2, rfl, rfl, hT, atI_nat (k := 1) rfl, _, rfl, q, D, v2, _, ar, S, qq, m, rfl, hq.o, h2, hD, oa, ?_⟩
      refine ⟨_, rfl, iteT ⟨_, rfl, q, dx, _, rfl, ho, rfl, _, rfl, a, _, 2, v3, rfl, rfl, hT, atI_nat (k := 2) rfl, _, rfl, q, D, v3, _, ar, S, qq, m, rfl, hq.o, h3, hD, ob, ?_⟩⟩
      exact k ls H (Kp.refl _) (fun x hx => .inl hx) hD hq
    | @tab _ v fs nv lv ts =>
      obtain ⟨a, z, rest, rfl, ha, hz⟩ := tab_head hx hd ts
      have hT : SqT K H a (.str z :: .str v :: rest) := SqT.of ha
      have zs : z ≠ "same" ∧ z ≠ "put" := by
        constructor <;> rintro rfl <;> exact absurd hz (by decide)
      refine ⟨_, rfl, a, _, 0, .str z, rfl, rfl, hT, at0, ?_⟩
      refine ⟨_, rfl, rfl, _, rfl, iteFs (decide_eq_false fun e => zs.1 (V.str.inj e)) ?_⟩
      refine ⟨_, rfl, rfl, _, rfl, iteFs (decide_eq_false fun e => zs.2 (V.str.inj e)) ?_⟩
      obtain ⟨kd, hkd, KD⟩ := id hD
      refine ⟨_, rfl, a, _, 1, .str v, rfl, rfl, hT, atI_nat (k := 1) rfl, S, qq, 0, .str v, .str v, rfl, .str v (by have := nv.2.1; omega), _, rfl, ?_⟩
      rw [bP_t (show NmD (.str v) from ⟨v, rfl, nv⟩)]
      refine iteF ?_
      refine ⟨_, rfl, a, _, 1, .str v, rfl, rfl, hT, atI_nat (k := 1) rfl, _, rfl, D, _, rfl, .inl ⟨_, .inr v, .inl hkd, rfl, rfl⟩, _, rfl, ?_⟩
      rw [KD.none_ lv]
      refine iteF ?_
      refine ⟨_, rfl, by show 3 ≤ sizeLine; decide, fun e he => ?_⟩
      have k1 : Kp [] H (upd H e (.tup [.str "scan", .str "run", .str "seek"])) := Kp.new he
      have hee : upd H e (.tup [.str "scan", .str "run", .str "seek"]) e = some (.tup [.str "scan", .str "run", .str "seek"]) := upd_same
      refine ⟨e, _, rfl, .inr (SqT.of hee), rfl, flat_strsQ ["scan", "run", "seek"], _, rfl, ?_⟩
      rw [in3W, decide_eq_true hz]
      refine iteT ?_
      generalize upd H e (.tup [.str "scan", .str "run", .str "seek"]) = H1 at k1 hee
      have hq1 := hq.kp0 k1
      obtain ⟨dx1, ho1⟩ := hq1.obj
      refine ⟨_, rfl, q, dx1, _, rfl, ho1, rfl, _, rfl, _, rfl, q, D, dt, db, dp, ln, ls, CE, cs, ar, S, qq, n, .ref a, d, st, v, fs, rfl, hq1, hx.keep k1, hd, ts, hD.kp k1 (fun z => nomatch z), lv, la, fun H2 k2 hD2 => ?_⟩
      exact k ls H2 ((k1.zero.trans k2).mono (by simp)) (fun x hx => .inl hx) hD2 (hq1.kp k2 fun x hx => by rw [List.mem_singleton.mp hx]; exact ⟨Do, Dt', Db⟩)
    | @ent _ v b ks ss nv lv ts =>
      obtain ⟨a, z, rest, rfl, ha, hz⟩ := ent_head hx hd ts
      have hT : SqT K H a (.str z :: .str v :: rest) := SqT.of ha
      have zs : z ≠ "same" ∧ z ≠ "put" := by
        constructor <;> rintro rfl <;> exact absurd hz (by decide)
      refine ⟨_, rfl, a, _, 0, .str z, rfl, rfl, hT, at0, ?_⟩
      refine ⟨_, rfl, rfl, _, rfl, iteFs (decide_eq_false fun e => zs.1 (V.str.inj e)) ?_⟩
      refine ⟨_, rfl, rfl, _, rfl, iteFs (decide_eq_false fun e => zs.2 (V.str.inj e)) ?_⟩
      obtain ⟨kd, hkd, KD⟩ := id hD
      refine ⟨_, rfl, a, _, 1, .str v, rfl, rfl, hT, atI_nat (k := 1) rfl, S, qq, 0, .str v, .str v, rfl, .str v (by have := nv.2.1; omega), _, rfl, ?_⟩
      rw [bP_t (show NmD (.str v) from ⟨v, rfl, nv⟩)]
      refine iteF ?_
      refine ⟨_, rfl, a, _, 1, .str v, rfl, rfl, hT, atI_nat (k := 1) rfl, _, rfl, D, _, rfl, .inl ⟨_, .inr v, .inl hkd, rfl, rfl⟩, _, rfl, ?_⟩
      rw [KD.none_ lv]
      refine iteF ?_
      refine ⟨_, rfl, by show 3 ≤ sizeLine; decide, fun e he => ?_⟩
      have k1 : Kp [] H (upd H e (.tup [.str "scan", .str "run", .str "seek"])) := Kp.new he
      have hee : upd H e (.tup [.str "scan", .str "run", .str "seek"]) e = some (.tup [.str "scan", .str "run", .str "seek"]) := upd_same
      refine ⟨e, _, rfl, .inr (SqT.of hee), rfl, flat_strsQ ["scan", "run", "seek"], _, rfl, ?_⟩
      rw [in3W, decide_eq_false (fun h => hz (List.mem_cons_of_mem _ (List.mem_cons_of_mem _ h)))]
      refine iteF ?_
      generalize upd H e (.tup [.str "scan", .str "run", .str "seek"]) = H1 at k1 hee
      have hq1 := hq.kp0 k1
      obtain ⟨dx1, ho1⟩ := hq1.obj
      refine ⟨_, rfl, q, dx1, _, rfl, ho1, rfl, _, rfl, _, rfl, _, rfl, q, D, dt, db, dp, ln, ls, CE, cs, top, ar, S, qq, n, .ref a, d, st, v, b, ks, ss, rfl, hq1, hx.keep k1, hd, ts, hD.kp k1 (fun z => nomatch z), lv, la, ES _ _ _ ts.1.1, CS.2.2, Do, Dt', Db, fun H2 k2 hD2 hq2 => ?_⟩
      exact k ls H2 ((k1.zero.trans k2).mono (by simp)) (fun x hx => .inl hx) hD2 hq2
end
end Fm

namespace Fm
open PySem PySem.Spec PyProof.Rows L2
/-! ### first_wrong: right programs -/
theorem ck_fit {E : CEnv} {top n k : Nat} {ar : Ar} {cs cs2 : Cs} {s : Stm} (h : Ck E top n k ar cs s cs2) : k ≤ 8 ∧ cs.seen < 40 ∧ (isPut s = true ∨ BodyOk (bodyOf s)) ∧ ∃ ar' cs', Fit E top ar cs.see s ar' cs' ∧ ar'.length ≤ ar.length + 1 ∧ ((isPut s = true ∧ cs2 = cs') ∨ (isPut s = false ∧ ∃ n', n = n' + 1 ∧ CkL E top n' (k + 1) ar' cs' (bodyOf s) cs2)) := by
  cases h with
  | put a b c => exact ⟨a, b, .inl rfl, _, _, .put c, Nat.le_succ _, .inl ⟨rfl, rfl⟩⟩
  | same a b c d e f => exact ⟨a, b, .inr c, _, _, .same d e, Nat.le_succ _, .inr ⟨rfl, _, rfl, f⟩⟩
  | scan a b c d e f g => exact ⟨a, b, .inr c, _, _, .tab d e ⟨_, _, f, .inl rfl⟩, by simp, .inr ⟨rfl, _, rfl, g⟩⟩
  | run a b c d e f g h => exact ⟨a, b, .inr c, _, _, .tab d e ⟨_, _, f, .inr (.inl ⟨_, rfl, g⟩)⟩, by simp, .inr ⟨rfl, _, rfl, h⟩⟩
  | seek a b c d e f g h i => exact ⟨a, b, .inr c, _, _, .tab d e ⟨_, _, f, .inr (.inr ⟨_, _, rfl, g, h⟩)⟩, by simp, .inr ⟨rfl, _, rfl, i⟩⟩
  | each a b c d e f g => exact ⟨a, b, .inr c, _, _, .ent d e ⟨f, _, .inl rfl⟩, by simp, .inr ⟨rfl, _, rfl, g⟩⟩
  | rise a b c d e f g h => exact ⟨a, b, .inr c, _, _, .ent d e ⟨f, _, .inr (.inl ⟨_, rfl, g⟩)⟩, by simp, .inr ⟨rfl, _, rfl, h⟩⟩
  | look a b c d e f g h i => exact ⟨a, b, .inr c, _, _, .ent d e ⟨f, _, .inr (.inr ⟨_, rfl, g, h⟩)⟩, by simp, .inr ⟨rfl, _, rfl, i⟩⟩
theorem lkA_app {α : Type} {s t : Str} {a : α} : ∀ {l : List (Str × α)}, lkA (l ++ [(s, a)]) t = match lkA l t with | some x => some x | none => if s = t then some a else none
  | [] => by rw [List.nil_append, lkA_cons]; rfl
  | p :: l => by
    rw [List.cons_append, lkA_cons, lkA_cons]
    by_cases e : p.1 = t
    · rw [if_pos e, if_pos e]
    · rw [if_neg e, if_neg e]; exact lkA_app
theorem lkA_map {α : Type} {s t : Str} {a : α} : ∀ {l : List (Str × α)}, lkA (l.map fun p => if p.1 = s then (p.1, a) else p) t = if s = t then (lkA l t).map (fun _ => a) else lkA l t
  | [] => by split <;> rfl
  | p :: l => by
    rw [List.map_cons, lkA_cons, lkA_cons]
    by_cases e : p.1 = s
    · rw [if_pos e]
      by_cases e2 : p.1 = t
      · have : s = t := e.symm.trans e2
        rw [if_pos e2, if_pos e2, if_pos this]; rfl
      · have : s ≠ t := fun z => e2 (e.trans z)
        rw [if_neg e2, if_neg e2, if_neg this]
        have := lkA_map (s := s) (t := t) (a := a) (l := l)
        rw [if_neg ‹s ≠ t›] at this
        exact this
    · rw [if_neg e]
      by_cases e2 : p.1 = t
      · have : s ≠ t := fun z => e (e2.trans z.symm)
        rw [if_pos e2, if_pos e2, if_neg this]
      · rw [if_neg e2, if_neg e2]; exact lkA_map
theorem lkA_putA {α : Type} {s t : Str} {a : α} {l : List (Str × α)} : lkA (putA l s a) t = if s = t then some a else lkA l t := by
  cases e : lkA l s with
  | none =>
    rw [putA_none e, lkA_app]
    by_cases z : s = t
    · subst z; rw [e, if_pos rfl]
    · cases lkA l t <;> simp [z]
  | some x =>
    rw [putA_some e, lkA_map]
    by_cases z : s = t
    · subst z; rw [e, if_pos rfl, if_pos rfl]; rfl
    · rw [if_neg z, if_neg z]
theorem putA_len {α : Type} {s : Str} {a : α} {l : List (Str × α)} : (putA l s a).length ≤ l.length + 1 := by
  unfold putA; split <;> simp
theorem fit_cs {E : CEnv} {top m : Nat} {ar ar' : Ar} {cs cs' : Cs} {s : Stm} (f : Fit E top ar cs s ar' cs') (h : CsS m cs) : CsS (m + 1) cs' ∧ cs'.seen = cs.seen := by
  obtain ⟨h1, h2, h3⟩ := h
  cases f with
  | @put b ts adds ok =>
    refine ⟨⟨?_, fun b' l hl => ?_, Nat.le_succ_of_le h3⟩, rfl⟩
    · have := putA_len (s := b) (a := (lkA cs.pu b).getD [] ++ [top]) (l := cs.pu)
      show (putA cs.pu b _).length ≤ _
      omega
    · have hl : lkA (putA cs.pu b ((lkA cs.pu b).getD [] ++ [top])) b' = some l := hl
      rw [lkA_putA] at hl
      by_cases z : b = b'
      · rw [if_pos z] at hl
        cases hl
        rw [List.length_append]
        cases e : lkA cs.pu b with
        | none => simp
        | some x =>
          have := h2 _ _ e
          show x.length + 1 ≤ m + 1
          omega
      · rw [if_neg z] at hl
        have := h2 _ _ hl
        omega
  | same _ _ => exact ⟨⟨Nat.le_succ_of_le h1, fun b l e => Nat.le_succ_of_le (h2 b l e), Nat.le_succ_of_le h3⟩, rfl⟩
  | tab _ _ _ => exact ⟨⟨Nat.le_succ_of_le h1, fun b l e => Nat.le_succ_of_le (h2 b l e), Nat.le_succ_of_le h3⟩, rfl⟩
  | ent _ _ _ => exact ⟨⟨Nat.le_succ_of_le h1, fun b l e => Nat.le_succ_of_le (h2 b l e), by show (cs.nm ++ _).length ≤ _; simp [h3]⟩, rfl⟩
theorem PuA.some_ {H : Hp} {x : Addr} : ∀ {kvs : List (Key × V)} {l : List (Str × List Nat)} {ls : List Addr}, PuA H kvs l ls → x ∈ ls → H x ≠ none
  | _, _, _, .nil, z => nomatch z
  | _, _, _, .cons h t, z => by
    rcases List.mem_cons.mp z with rfl | z
    · rw [h]; simp
    · exact t.some_ z
theorem CkAt.some_ {CC : Addr} {H : Hp} {q : Addr} {E : CEnv} {cs : Cs} {dt db dp ln : Addr} {ls : List Addr} (h : CkAt CC H q E cs dt db dp ln ls) {x : Addr} (hx : x ∈ ownC q dp ln ls ∨ x = dt ∨ x = db) : H x ≠ none := by
  obtain ⟨⟨dx, h1⟩, ⟨kt, h2, h3⟩, ⟨kb, h4, h5⟩, ⟨kp, h6, h7⟩, h8, h9⟩ := h
  rcases hx with hx | rfl | rfl
  · rcases List.mem_cons.mp hx with rfl | hx
    · rw [h1]; simp
    · rcases List.mem_cons.mp hx with rfl | hx
      · rw [h6]; simp
      · rcases List.mem_cons.mp hx with rfl | hx
        · rw [h8]; simp
        · exact h7.some_ hx
  · rw [h2]; simp
  · rw [h4]; simp
theorem CkAt.new_of {CC : Addr} {H H' : Hp} {q : Addr} {E : CEnv} {cs : Cs} {dt db dp ln : Addr} {ls ls' : List Addr} (h : CkAt CC H' q E cs dt db dp ln ls') (k : Kp (ownC q dp ln ls) H H') {x : Addr} (hx : H' x = none) : x ∈ ls ∨ H x = none := by
  cases e : H x with
  | none => exact .inr rfl
  | some o =>
    by_cases z : x ∈ ownC q dp ln ls
    · rcases List.mem_cons.mp z with rfl | z
      · exact absurd hx (h.some_ (.inl (by simp [ownC])))
      rcases List.mem_cons.mp z with rfl | z
      · exact absurd hx (h.some_ (.inl (by simp [ownC])))
      rcases List.mem_cons.mp z with rfl | z
      · exact absurd hx (h.some_ (.inl (by simp [ownC])))
      exact .inl z
    · rw [k.at_ _ _ e z] at hx; cases hx
/-- a statement that is right: no path is told -/
def spFirst (CC : Addr) (n0 : Nat) : Sp := fun vs H Q _ => ∃ (q D pa dt db dp ln : Addr) (ls : List Addr) (E : CEnv) (cs cs' : Cs) (top k : Nat) (ar : Ar) (ps : List V) (S : Addr → Prop) (qq : Bool) (n : Nat) (x : V) (d : PyData) (s : Stm), vs = [.ref q, x, .ref pa, .ref D] ∧ CkAt CC H q E cs dt db dp ln ls ∧ Dt S qq H n x d ∧ StD d s ∧ Ck E top n0 k ar cs s cs' ∧ ArAt H D ar ∧ H pa = some (.tup (.int top :: ps)) ∧ ps.length + 1 = k ∧ ar.length ≤ k ∧ CEnvS E ∧ CsS cs.seen cs ∧ (∀ a, S a → a ∉ ownC q dp ln ls) ∧
  ∀ ls' H', Kp (ownC q dp ln ls) H H' → (∀ x ∈ ls', x ∈ ls ∨ H x = none) → CkAt CC H' q E cs' dt db dp ln ls' → CsS cs'.seen cs' → Q .non H'
def spFirstB (CC : Addr) : Nat → Sp
  | 0 => fun _ _ _ _ => False
  | n + 1 => spFirst CC n
section
variable {P : Program} {w : World} {K : PySem.W.Frag} {mg : Str → Option Value} {base : Heap}
theorem step_first {fT fI CC : Addr} {fdT fdI : FuncData} {tk tk' : Tok} (B : Bi mg) (F : Fun K "first_wrong" "Checker.first_wrong" s_Checker_first_wrong fT fdT) (cl : Cls K CC) (ns : NoAttr K CC "seen")
    (MD : mg "MOST_DEEP" = some (.int 8 tk)) (MS : mg "MOST_STATEMENTS" = some (.int 40 tk')) (G_has_form : Has P w K mg base CX0 "has_form" ["statement"] 2 spForm)
    (mI : Meth K CC "fits" fI) (GI : FnOk P w K mg base CX0 6 fI fdI ["self", "statement", "top", "around"] (spFits CC)) (bI : Binds K fdI ["self", "statement", "top", "around"] [])
    (mF : Meth K CC "first_wrong" fT) (bF : Binds K fdT ["self", "statement", "path", "around"] []) (n : Nat) (GF : FnOk P w K mg base CX0 (n + 6) fT fdT ["self", "statement", "path", "around"] (spFirstB CC n)) : FnOk P w K mg base CX0 (n + 7) fT fdT ["self", "statement", "path", "around"] (spFirst CC n) := by
  refine F.ok sc_Checker_first_wrong (fun vs H Q E h => ?_) (fun cdv A outer s H vs Q E hr h => ?_)
  · obtain ⟨q, D, pa, dt, db, dp, ln, ls, E, cs, cs', top, k', ar, ps, S, qq, nn, x, d, st, rfl, _⟩ := h; rfl
  · obtain ⟨q, D, pa, dt, db, dp, ln, ls, CE, cs, cs', top, kk, ar, ps, S, qq, nn, x, d, st, rfl, hq, hx, hd, hc, hD, hpa, lps, la, ES, CS, hS, k⟩ := h
    have hu := hu_of hr
    have GI' := GI.mono (show 6 ≤ n + 6 by omega)
    refine ⟨_, (pss_cons (ps_fldaug (pv 0) pe_int in_add)
  (pss_cons (ps_if (PW.pt (pw_or (pt_cmpR op_gt (pe_callB call_len (by rfl) B.len PySem.boot_len (pa_cons (pv 2) pa_nil)) (pe_glob (v := .int 8) rfl MD ⟨_, rfl⟩) (nomark _)) (pw_or (pt_cmpR op_gt (pe_fld (pv 0) rfl) (pe_glob (v := .int 40) rfl MS ⟨_, rfl⟩) (nomark _)) (pw_or1 (pt_not (pt_val (pe_has G_has_form (hr.mono (by omega)) (pa_cons (pv 1) pa_nil))))))))
  (pss_one (ps_ret (pv 2)))
  pss_nil)
  (pss_cons (ps_set (i := 4) sc_Checker_first_wrong.nd rfl (by first | exact Or.inl rfl | exact Or.inr rfl) (pe_callTy call_dictD (by rfl) B.dict (by decide +kernel) (pa_cons (pv 3) pa_nil)))
  (pss_cons (ps_if (pt_not (pt_val (pe_meth (E := E0) (pv 0) cl mI GI' (hr.mono (by omega)) bI .nil pass0 (pa_cons (pv 1) (pa_cons (pe_ix (r := rIxT K) ix_tup (pv 2) pe_int (fun _ _ => rfl)) (pa_cons (pv 4) pa_nil))))))
  (pss_one (ps_ret (pv 2)))
  pss_nil)
  (pss_cons (ps_if (pt_cmpR op_eq (pe_ix (r := rIxT K) ix_tup (pv 1) pe_int (fun _ _ => rfl)) pe_str (nomark _))
  (pss_one (ps_ret pe_non))
  pss_nil)
  (pss_cons (ps_for PassesOwn.never rfl (pi_or (pi_enum (by rfl) B.enumerate (pa_cons (pe_ix (r := rIxT K) ix_tup (pv 1) (pe_un un_neg pe_int) (fun _ _ => rfl)) pa_nil)) (pi_enumT (by rfl) B.enumerate (pa_cons (pe_ix (r := rIxT K) ix_tup (pv 1) (pe_un un_neg pe_int) (fun _ _ => rfl)) pa_nil))) (pg_tup rfl (pgs_cons (pg_name (i := 5) sc_Checker_first_wrong.nd rfl (by first | exact Or.inl rfl | exact Or.inr rfl)) (pgs_cons (pg_name (i := 6) sc_Checker_first_wrong.nd rfl (by first | exact Or.inl rfl | exact Or.inr rfl)) pgs_nil)))
  (pss_cons (ps_set (i := 7) sc_Checker_first_wrong.nd rfl (by first | exact Or.inl rfl | exact Or.inr rfl) (pe_meth (E := E0) (pv 0) cl mF GF (hr.mono (by omega)) bF .nil pass0 (pa_cons (pv 6) (pa_cons (pe_op op_catA (pv 2) (pe_tup (pa_cons (pv 5) pa_nil))) (pa_cons (pv 4) pa_nil)))))
  (pss_one (ps_if (pt_cmpR op_notN (pv 7) pe_non (nomark _))
  (pss_one (ps_ret (pv 7)))
  pss_nil))))
  (pss_one (ps_ret pe_non)))))))), ?_⟩
    have hsz : sizeLine = 16777216 := rfl
    obtain ⟨k8, s40, hform, ar', cs1, hfit, lar, hbody⟩ := ck_fit hc
    obtain ⟨T, hx, hS'⟩ : ∃ T : Addr → Prop, Dt T qq H nn x d ∧ ∀ a, T a → a ∉ ownC q dp ln ls ∧ H a ≠ none := ⟨_, hx.inH, fun a h => ⟨hS a h.1, h.2⟩⟩
    obtain ⟨dx, ho⟩ := hq.obj
    have kq : Kp [q] H (upd H q (.ins CC dx [("tables", .ref dt), ("blocks", .ref db), ("putters", .ref dp), ("named", .ref ln), ("seen", .int cs.see.seen)])) := Kp.set ho (fun _ z => by cases z) (by simp)
    have hqq : upd H q (.ins CC dx [("tables", .ref dt), ("blocks", .ref db), ("putters", .ref dp), ("named", .ref ln), ("seen", .int cs.see.seen)]) q = some (.ins CC dx [("tables", .ref dt), ("blocks", .ref db), ("putters", .ref dp), ("named", .ref ln), ("seen", .int cs.see.seen)]) := upd_same
    refine ⟨_, rfl, q, CC, dx, _, _, rfl, ho, cl, ns, rfl, _, _, rfl, rfl, dx, _, ho, by show 5 < 1000; decide, ?_⟩
    have ne : ∀ {x : Addr} {o : HO}, H x = some o → (∀ a b c, o ≠ .ins a b c) → x ∉ [q] := fun {x o} hx h z => by
      rw [List.mem_singleton.mp z, ho] at hx
      cases hx
      exact h _ _ _ rfl
    have hq1 : CkAt CC (upd H q (.ins CC dx [("tables", .ref dt), ("blocks", .ref db), ("putters", .ref dp), ("named", .ref ln), ("seen", .int cs.see.seen)])) q CE cs.see dt db dp ln ls := by
      obtain ⟨_, ⟨kt, h2, h3⟩, ⟨kb, h4, h5⟩, ⟨kp, h6, h7⟩, h8, h9⟩ := hq
      refine ⟨⟨dx, hqq⟩, ⟨kt, kq.at_ _ _ h2 (ne h2 fun _ _ _ z => by cases z), h3.imp fun _ _ => TabV.kp kq⟩, ⟨kb, kq.at_ _ _ h4 (ne h4 fun _ _ _ z => by cases z), h5.imp fun _ _ => BlkV.kp kq⟩, ⟨kp, kq.at_ _ _ h6 (ne h6 fun _ _ _ z => by cases z), h7.kp kq fun x hx z => ?_⟩, kq.at_ _ _ h8 (ne h8 fun _ _ _ z => by cases z), h9⟩
      have : ∀ {kvs : List (Key × V)} {l : List (Str × List Nat)} {ls : List Addr}, PuA H kvs l ls → x ∈ ls → ∃ xs, H x = some (.lst xs) := by
        intro kvs l ls h
        induction h with
        | nil => intro z; cases z
        | cons ha _ ih =>
          intro z
          rcases List.mem_cons.mp z with rfl | z
          · exact ⟨_, ha⟩
          · exact ih z
      obtain ⟨xs, h⟩ := this h7 hx
      exact ne h (fun _ _ _ z => by cases z) z
    have hx1 := hx.keepS (H' := upd H q (.ins CC dx [("tables", .ref dt), ("blocks", .ref db), ("putters", .ref dp), ("named", .ref ln), ("seen", .int cs.see.seen)])) (fun a o ha e => kq.at_ a o e fun z => (hS' a ha).1 (by simp [ownC, List.mem_singleton.mp z])) fun _ h => h
    obtain ⟨kd, hkd, KD⟩ := hD
    have hD1 : ArAt (upd H q (.ins CC dx [("tables", .ref dt), ("blocks", .ref db), ("putters", .ref dp), ("named", .ref ln), ("seen", .int cs.see.seen)])) D ar := ⟨kd, kq.at_ _ _ hkd (ne hkd fun _ _ _ z => by cases z), KD.imp fun _ _ => EntV.kp kq⟩
    have hpa1 := kq.tp _ _ hpa
    show tSeq _ _ _ _ (upd H q (.ins CC dx [("tables", .ref dt), ("blocks", .ref db), ("putters", .ref dp), ("named", .ref ln), ("seen", .int cs.see.seen)]))
    generalize upd H q (.ins CC dx [("tables", .ref dt), ("blocks", .ref db), ("putters", .ref dp), ("named", .ref ln), ("seen", .int cs.see.seen)]) = H1 at kq hq1 hx1 hD1 hpa1 hqq
    refine ⟨_, rfl, _, _, rfl, .inr ⟨_, SqT.of hpa1, rfl⟩, _, _, rfl, rfl, _, rfl, iteFs (decide_eq_false (by rw [List.length_cons]; omega)) ?_⟩
    refine ⟨_, rfl, q, CC, dx, _, _, rfl, hqq, cl, ns, rfl, _, _, rfl, rfl, _, rfl, iteFs (decide_eq_false (by show ¬ (40 : Int) < ((cs.seen + 1 : Nat) : Int); omega)) ?_⟩
    refine ⟨_, rfl, T, qq, nn, x, d, st, rfl, hx1, hd, hform, fun H2 k2 => ⟨_, rfl, iteF ?_⟩⟩
    have hq2 := hq1.kp0 k2
    have hx2 := hx1.keep k2
    have hpa2 := k2.tp _ _ hpa1
    obtain ⟨kd2, hkd2, KD2⟩ := hD1.kp k2 (fun z => nomatch z)
    refine ⟨_, rfl, D, kd2, rfl, .inl hkd2, fun D' hD' => ?_⟩
    have k3 : Kp [] H2 (upd H2 D' (.dK kd2)) := Kp.new hD'
    have hDD : ArAt (upd H2 D' (.dK kd2)) D' ar := ⟨kd2, upd_same, KD2.imp fun _ _ => EntV.kp k3⟩
    have k03 : Kp [q] H (upd H2 D' (.dK kd2)) := kq.trans (k2.trans k3).zero
    have hq3 := hq2.kp0 k3
    have hx3 := hx2.keep k3
    have hpa3 := k3.tp _ _ hpa2
    have dns : ∀ {x : Addr}, x ∈ ownC q dp ln ls ∨ x = dt ∨ x = db → D' ≠ x := fun hx z => hq2.some_ hx (by rw [← z]; exact hD')
    have D0 : H D' = none := by
      cases e : H D' with
      | none => rfl
      | some o =>
        exfalso
        by_cases z : D' = q
        · exact dns (.inl (by simp [ownC])) z
        · have := (kq.trans k2.zero).at_ _ _ e (by simpa using z)
          rw [hD'] at this; cases this
    have D's : upd H2 D' (.dK kd2) D' ≠ none := by rw [upd_same]; simp
    generalize upd H2 D' (.dK kd2) = H3 at k3 hDD k03 hq3 hx3 hpa3 D's
    obtain ⟨dx3, ho3⟩ := hq3.obj
    refine ⟨_, rfl, q, dx3, _, rfl, ho3, rfl, _, rfl, _, rfl, pa, _, 0, .int top, rfl, rfl, SqT.of hpa3, at0, _, rfl, q, D', dt, db, dp, ln, ls, CE, cs.see, cs1, top, ar, ar', T, qq, nn, x, d, st, rfl, hq3, hx3, hd, hfit, hDD, by omega, ES, ⟨by have := CS.1; show cs.pu.length ≤ 1000; omega, fun b l e => by have := CS.2.1 b l e; omega, by have := CS.2.2; show cs.nm.length ≤ 1000; omega⟩, fun z => dns (.inl z) rfl, dns (.inr (.inl rfl)), dns (.inr (.inr rfl)), fun ls1 H4 k4 new4 hD4 hq4 => ⟨_, rfl, iteF ?_⟩⟩
    obtain ⟨CS1, sn1⟩ := fit_cs (m := cs.seen) hfit CS
    have CS1 : CsS cs1.seen cs1 := by rw [sn1]; exact CS1
    obtain ⟨a, m, z, xs, rfl, rfl, ha, hcase⟩ := hd.form hx3
    have own3 : ∀ x ∈ [q], ∃ o, H3 x = some o := fun x hx => by rw [List.mem_singleton.mp hx]; exact ⟨_, ho3⟩
    have k04 : Kp (ownC q dp ln ls) H H4 := (k03.mono (by simp [ownC])).viaM k4 fun x hx => by
      rcases List.mem_cons.mp hx with rfl | hx
      · exact .inr D0
      · exact .inl (List.mem_cons_of_mem _ hx)
    have new1 : ∀ x ∈ ls1, x ∈ ls ∨ H x = none := fun x hx => (new4 x hx).imp id fun h => k03.free h own3
    have hT4 : SqT K H4 a (.str z :: xs) := SqT.of (k4.tp _ _ ha)
    rcases hcase with ⟨rfl, _, b, ts, adds, rfl⟩ | ⟨nz, body, bd, db', es', hbd, hdb, rdb, sb, nx, hh⟩
    · rcases hbody with ⟨_, rfl⟩ | ⟨e, _⟩
      · exact ⟨_, rfl, a, _, 0, .str "put", rfl, rfl, hT4, at0, rfl, _, rfl, iteTs rfl (k ls1 H4 k04 new1 hq4 CS1)⟩
      · cases e
    have hb : isPut st = false ∧ bodyOf st = body := by
      rcases hh with ⟨_, _, rfl, _⟩ | ⟨_, _, _, rfl, _⟩ | ⟨_, _, _, _, rfl, _⟩ | ⟨_, _, rfl, _⟩ | ⟨_, _, _, rfl, _⟩ | ⟨_, _, _, rfl, _⟩ | ⟨_, _, rfl, _⟩ <;> exact ⟨rfl, rfl⟩
    obtain ⟨n', rfl, hL⟩ : ∃ n', n = n' + 1 ∧ CkL CE top n' (kk + 1) ar' cs1 body cs' := by
      rcases hbody with ⟨e, _⟩ | ⟨_, n', e, h⟩
      · rw [hb.1] at e; cases e
      · rw [hb.2] at h; exact ⟨n', e, h⟩
    have hbl : body.length ≤ 8 := by
      rcases hform with e | e
      · rw [hb.1] at e; cases e
      · rw [hb.2] at e; exact e.2
    refine ⟨_, rfl, a, _, 0, .str z, rfl, rfl, hT4, at0, rfl, _, rfl, iteFs (decide_eq_false fun e => nz (V.str.inj e)) ?_⟩
    have TS : ∀ a, T a → a ∉ ownC q dp ln ls1 ∧ a ≠ D' ∧ H4 a ≠ none := fun a h => by
      obtain ⟨h1, h2⟩ := hS' a h
      obtain ⟨o, ho⟩ := Option.ne_none_iff_exists'.mp h2
      have h3 := k03.at_ _ _ ho (fun z => h1 (by simp [ownC, List.mem_singleton.mp z]))
      have h4 : H4 a = some o := k04.at_ _ _ ho h1
      have hne : a ≠ D' := fun z => by rw [z, D0] at ho; cases ho
      refine ⟨fun hx => ?_, hne, by rw [h4]; simp⟩
      rcases List.mem_cons.mp hx with rfl | hx
      · exact h1 (by simp [ownC])
      rcases List.mem_cons.mp hx with rfl | hx
      · exact h1 (by simp [ownC])
      rcases List.mem_cons.mp hx with rfl | hx
      · exact h1 (by simp [ownC])
      rcases new4 a hx with hx | hx
      · exact h1 (by simp [ownC, hx])
      · rw [h3] at hx; cases hx
    have D1 : D' ∉ ownC q dp ln ls1 := fun hx => by
      rcases List.mem_cons.mp hx with rfl | hx
      · exact dns (.inl (by simp [ownC])) rfl
      rcases List.mem_cons.mp hx with rfl | hx
      · exact dns (.inl (by simp [ownC])) rfl
      rcases List.mem_cons.mp hx with rfl | hx
      · exact dns (.inl (by simp [ownC])) rfl
      rcases new4 _ hx with hx | hx
      · exact dns (.inl (by simp [ownC, hx])) rfl
      · exact D's hx
    have T2 : ∀ ls' : List Addr, (∀ x ∈ ls', x ∈ ls1 ∨ H4 x = none) → ∀ a, T a → a ∉ ownC q dp ln ls' := fun ls' hn a ha hx => by
      obtain ⟨h1, h2, h3⟩ := TS a ha
      rcases List.mem_cons.mp hx with rfl | hx
      · exact h1 (by simp [ownC])
      rcases List.mem_cons.mp hx with rfl | hx
      · exact h1 (by simp [ownC])
      rcases List.mem_cons.mp hx with rfl | hx
      · exact h1 (by simp [ownC])
      rcases hn _ hx with hx | hx
      · exact h1 (by simp [ownC, hx])
      · exact h3 hx
    have hdb4 := hdb.keepS (H' := H4) (fun a o ha e => k4.at_ a o e fun z => by
      rcases List.mem_cons.mp z with z | z
      · exact (TS a ha).2.1 z
      · exact (hS' a ha).1 (List.mem_cons_of_mem _ z)) fun _ h => h
    obtain ⟨m2, p, ys, rfl, rfl, rx, lx, hTp, ax⟩ := hdb4.rowI rdb
    have lys : ys.length = body.length := by rw [ax.len, sb.len]
    have hpa4 := k4.tp _ _ hpa3
    refine for_rowsE ?_ rx (fun i σ H' => (∃ o5 o6 o7, σ = [some (.ref q), some (.ref a), some (.ref pa), some (.ref D), some (.ref D'), o5, o6, o7]) ∧ ∃ ls' csi, CkL CE top n' (kk + 1) ar' csi (body.drop i) cs' ∧ CsS csi.seen csi ∧ CkAt CC H' q CE csi dt db dp ln ls' ∧ Kp (ownC q dp ln ls1) H4 H' ∧ ∀ x ∈ ls', x ∈ ls1 ∨ H4 x = none) ⟨⟨_, _, _, rfl⟩, ls1, cs1, by rw [List.drop_zero]; exact hL, CS1, hq4, Kp.refl _, fun x hx => .inl hx⟩ (fun i σ H' h => by
      obtain ⟨_, _, _, _, _, _, k5, _⟩ := h
      exact ⟨_, k5, (TS p hTp).1⟩) ?_ ?_
    · exact fun Q h => ⟨_, rfl, _, rfl, a, _, -1, .ref p, rfl, rfl, hT4, atLast hbd nx, h⟩
    · rintro i u σ H5 T' ⟨⟨o5, o6, o7, rfl⟩, ls2, csi, hL2, CS2, hq5, k5, new5⟩ hu1 hT'
      obtain ⟨e, he, iu⟩ := ax.getV hu1
      have il : i < body.length := by rw [← lys]; exact (List.getElem?_eq_some_iff.mp hu1).1
      obtain ⟨s1, hs1⟩ : ∃ s1, body[i]? = some s1 := ⟨_, List.getElem?_eq_getElem il⟩
      obtain ⟨e', he', hst⟩ := sb.get hs1
      rw [he] at he'
      cases he'
      have edrop : body.drop i = s1 :: body.drop (i + 1) := by
        obtain ⟨h1, h2⟩ := List.getElem?_eq_some_iff.mp hs1
        rw [List.drop_eq_getElem_cons h1, h2]
      rw [edrop] at hL2
      cases hL2
      rename_i cs2 hck hrest
      have kT : Kp [] H5 (upd H5 T' (.tup [.int (i : Nat), u])) := Kp.new hT'
      have hTT : upd H5 T' (.tup [.int (i : Nat), u]) T' = some (.tup [.int (i : Nat), u]) := upd_same
      generalize upd H5 T' (.tup [.int (i : Nat), u]) = H6 at kT hTT
      have hq6 := hq5.kp0 kT
      obtain ⟨dx6, ho6⟩ := hq6.obj
      have hpa6 := kT.tp _ _ (k5.tp _ _ hpa4)
      have hT6 : SqT K H6 a (.str z :: xs) := SqT.of (kT.tp _ _ (k5.tp _ _ (k4.tp _ _ ha)))
      refine ⟨T', _, rfl, SqT.of hTT, rfl, _, _, rfl, _, _, rfl, rfl, ?_⟩
      refine ⟨_, rfl, q, dx6, _, rfl, ho6, rfl, _, rfl, _, rfl, _, rfl, by show 1 ≤ sizeLine; decide, fun e1 he1 => ?_⟩
      have k7 : Kp [] H6 (upd H6 e1 (.tup [.int (i : Nat)])) := Kp.new he1
      have h11 : upd H6 e1 (.tup [.int (i : Nat)]) e1 = some (.tup [.int (i : Nat)]) := upd_same
      have hpa7 := k7.tp _ _ hpa6
      generalize upd H6 e1 (.tup [.int (i : Nat)]) = H7 at k7 h11 hpa7
      refine ⟨pa, e1, _, _, rfl, rfl, SqT.of hpa7, SqT.of h11, by rw [List.length_cons]; simp; omega, (fun z => by cases z), (fun _ z => by cases z), fun _ _ p2 hp2 => ?_⟩
      have k8 : Kp [] H7 (upd H7 p2 (.tup ((.int top :: ps) ++ [.int (i : Nat)]))) := Kp.new hp2
      have h22 : upd H7 p2 (.tup ((.int top :: ps) ++ [.int (i : Nat)])) p2 = some (.tup ((.int top :: ps) ++ [.int (i : Nat)])) := upd_same
      generalize upd H7 p2 (.tup ((.int top :: ps) ++ [.int (i : Nat)])) = H8 at k8 h22
      have k58 := kT.trans (k7.trans k8)
      have hq8 := hq5.kp0 k58
      have k48 := k5.trans k58.zero
      refine ⟨_, rfl, q, D', p2, dt, db, dp, ln, ls2, CE, csi, cs2, top, kk + 1, ar', ps ++ [.int (i : Nat)], T, qq, m2, u, e, s1, rfl, hq8, (iu.keepS (fun a o ha e => k48.at_ a o e (TS a ha).1) fun _ h => h), hst, hck, (hD4.kp k48 D1), (by rw [h22, List.cons_append]), by rw [List.length_append, List.length_singleton]; omega, by omega, ES, CS2, fun a ha => T2 ls2 new5 a ha, fun ls3 H9 k9 new9 hq9 CS9 => ⟨_, rfl, rfl, _, rfl, iteF ⟨⟨_, _, _, rfl⟩, ls3, cs2, hrest, CS9, hq9, k48.viaM k9 fun x hx => ?_, fun x hx => ?_⟩⟩⟩
      · rcases List.mem_cons.mp hx with rfl | hx
        · exact .inl (by simp [ownC])
        rcases List.mem_cons.mp hx with rfl | hx
        · exact .inl (by simp [ownC])
        rcases List.mem_cons.mp hx with rfl | hx
        · exact .inl (by simp [ownC])
        exact (new5 x hx).imp (fun h => by simp [ownC, h]) id
      · rcases new9 x hx with h | h
        · exact new5 x h
        · exact hq8.new_of k48 h
    · rintro σ H5 ⟨⟨o5, o6, o7, rfl⟩, ls2, csi, hL2, CS2, hq5, k5, new5⟩
      rw [lys, List.drop_length] at hL2
      cases hL2
      refine k ls2 H5 (k04.viaM k5 fun x hx => ?_) (fun x hx => ?_) hq5 CS2
      · rcases List.mem_cons.mp hx with rfl | hx
        · exact .inl (by simp [ownC])
        rcases List.mem_cons.mp hx with rfl | hx
        · exact .inl (by simp [ownC])
        rcases List.mem_cons.mp hx with rfl | hx
        · exact .inl (by simp [ownC])
        exact (new1 x hx).imp (fun h => by simp [ownC, h]) id
      · rcases new5 x hx with h | h
        · exact new1 x h
        · exact hq4.new_of k04 h
theorem ok_first {fT fI CC : Addr} {fdT fdI : FuncData} {tk tk' : Tok} (B : Bi mg) (F : Fun K "first_wrong" "Checker.first_wrong" s_Checker_first_wrong fT fdT) (cl : Cls K CC) (ns : NoAttr K CC "seen")
    (MD : mg "MOST_DEEP" = some (.int 8 tk)) (MS : mg "MOST_STATEMENTS" = some (.int 40 tk')) (G_has_form : Has P w K mg base CX0 "has_form" ["statement"] 2 spForm)
    (mI : Meth K CC "fits" fI) (GI : FnOk P w K mg base CX0 6 fI fdI ["self", "statement", "top", "around"] (spFits CC)) (bI : Binds K fdI ["self", "statement", "top", "around"] [])
    (mF : Meth K CC "first_wrong" fT) (bF : Binds K fdT ["self", "statement", "path", "around"] []) : ∀ n : Nat, FnOk P w K mg base CX0 (n + 7) fT fdT ["self", "statement", "path", "around"] (spFirst CC n)
  | 0 => step_first B F cl ns MD MS G_has_form mI GI bI mF bF 0 ⟨fun _ _ _ _ h => h.elim, fun _ _ _ _ _ _ _ _ _ _ _ _ _ h => h.elim⟩
  | n + 1 => step_first B F cl ns MD MS G_has_form mI GI bI mF bF (n + 1) (ok_first B F cl ns MD MS G_has_form mI GI bI mF bF n)
end
end Fm

namespace Fm
open PySem PySem.Spec PyProof.Rows L2
/-! ### rows of tables, as they are given and as they are kept -/
inductive ValsAll (m : Nat) : List PyData → List (List Int) → Prop
  | nil : ValsAll m [] []
  | cons {e : PyData} {es : List PyData} {r : List Int} {rs : List (List Int)} : ValsD m e r → ValsAll m es rs → ValsAll m (e :: es) (r :: rs)
theorem ValsAll.len {m : Nat} : ∀ {es : List PyData} {rs : List (List Int)}, ValsAll m es rs → es.length = rs.length
  | _, _, .nil => rfl
  | _, _, .cons _ h => congrArg (· + 1) h.len
theorem ValsAll.get {m : Nat} : ∀ {es : List PyData} {rs : List (List Int)}, ValsAll m es rs → ∀ {i : Nat} {e : PyData}, es[i]? = some e → ∃ r, rs[i]? = some r ∧ ValsD m e r
  | _, _, .cons a b, 0, e, h => by cases h; exact ⟨_, rfl, a⟩
  | _, _, .cons a b, i + 1, e, h => b.get (i := i) h
/-- the rows r of a table with m fields, given as v -/
def RowsV (H : Hp) (v : V) (m : Nat) (r : List (List Int)) : Prop := ∃ d es, Dt (fun _ => True) false H 2 v d ∧ RowD d es ∧ ValsAll m es r
theorem RowsV.keep {H H' : Hp} {v : V} {m : Nat} {r : List (List Int)} (h : RowsV H v m r) (k : Kp [] H H') : RowsV H' v m r := let ⟨d, es, a, b, c⟩ := h; ⟨d, es, a.keep k, b, c⟩
def TabIn (H : Hp) (kvs : List (Key × V)) (t : Str × List Str) (r : List (List Int)) : Prop := (∃ v, valV kvs (.inr t.1) = some v ∧ RowsV H v t.2.length r) ∨ (valV kvs (.inr t.1) = none ∧ r = [])
theorem TabIn.keep {H H' : Hp} {kvs : List (Key × V)} {t : Str × List Str} {r : List (List Int)} (h : TabIn H kvs t r) (k : Kp [] H H') : TabIn H' kvs t r := h.elim (fun ⟨v, a, b⟩ => .inl ⟨v, a, b.keep k⟩) .inr
inductive InAll (H : Hp) (kvs : List (Key × V)) : List (Str × List Str) → List (List (List Int)) → Prop
  | nil : InAll H kvs [] []
  | cons {t : Str × List Str} {ts : List (Str × List Str)} {r : List (List Int)} {R : List (List (List Int))} : TabIn H kvs t r → InAll H kvs ts R → InAll H kvs (t :: ts) (r :: R)
theorem InAll.keep {H H' : Hp} {kvs : List (Key × V)} (k : Kp [] H H') : ∀ {ts : List (Str × List Str)} {R : List (List (List Int))}, InAll H kvs ts R → InAll H' kvs ts R
  | _, _, .nil => .nil
  | _, _, .cons a b => .cons (a.keep k) (b.keep k)
theorem InAll.len {H : Hp} {kvs : List (Key × V)} : ∀ {ts : List (Str × List Str)} {R : List (List (List Int))}, InAll H kvs ts R → ts.length = R.length
  | _, _, .nil => rfl
  | _, _, .cons _ b => congrArg (· + 1) b.len
theorem InAll.get {H : Hp} {kvs : List (Key × V)} : ∀ {ts : List (Str × List Str)} {R : List (List (List Int))}, InAll H kvs ts R → ∀ {i : Nat} {t : Str × List Str}, ts[i]? = some t → ∃ r, R[i]? = some r ∧ TabIn H kvs t r
  | _, _, .cons a b, 0, t, h => by cases h; exact ⟨_, rfl, a⟩
  | _, _, .cons a b, i + 1, t, h => b.get (i := i) h
/-- a dict of rows for the tables tbs: R -/
structure DictIn (H : Hp) (d : Addr) (tbs : List (Str × List Str)) (R : List (List (List Int))) : Prop where
  ex : ∃ kvs, H d = some (.dK kvs) ∧ kvs.length ≤ 1000 ∧ (∀ kv ∈ kvs, ∃ t ∈ tbs, kv.1 = .inr t.1) ∧ InAll H kvs tbs R
def dRow (r : List Int) : PyData := .tuple (r.map .int)
def dRows (R : List (List Int)) : PyData := .tuple (R.map dRow)
inductive KvAt (H : Hp) : List (Key × V) → List (Str × List Str) → List (List (List Int)) → Prop
  | nil : KvAt H [] [] []
  | cons {v : V} {kvs : List (Key × V)} {t : Str × List Str} {ts : List (Str × List Str)} {r : List (List Int)} {R : List (List (List Int))} : Im H 2 v (dRows r) → KvAt H kvs ts R → KvAt H ((.inr t.1, v) :: kvs) (t :: ts) (r :: R)
theorem ShapeAt.rows {C : Addr} {H : Hp} {p : Addr} {tbs : List (Str × List Str)} (h : ShapeAt C H p tbs) : ∃ dx a xs, H p = some (.ins C dx [("tables", .ref a)]) ∧ H a = some (.tup xs) ∧ ImAll H 2 xs (tbs.map dTab) := by
  obtain ⟨dx, v, h1, h2⟩ := h
  cases h2 with
  | tup r l a => exact ⟨dx, _, _, h1, r, a⟩
theorem tab_at {H H' : Hp} {xs : List V} {tbs : List (Str × List Str)} {i : Nat} {u : V} (ix : ImAll H 2 xs (tbs.map dTab)) (k : Kp [] H H') (hu : xs[i]? = some u) : ∃ a b t, u = .ref a ∧ tbs[i]? = some t ∧ H' a = some (.tup [.str t.1, .ref b]) ∧ H' b = some (.tup (t.2.map V.str)) := by
  obtain ⟨du, hdu, dt⟩ := ix.getV hu
  rw [List.getElem?_map] at hdu
  cases et : tbs[i]? with
  | none => rw [et] at hdu; cases hdu
  | some tt =>
    rw [et] at hdu
    cases hdu
    obtain ⟨a', b', rfl, e1, e2⟩ := Im.tab (n := 0) (Im.kp k dt)
    refine ⟨a', b', tt, rfl, rfl, e1, ?_⟩
    cases e2 with
    | tup r _ a => rw [r, DtAll.strs a]
section
variable {P : Program} {w : World} {K : PySem.W.Frag} {mg : Str → Option Value} {base : Heap}
end
end Fm

namespace Fm
open PySem PySem.Spec PyProof.Rows L2
def rTupO (K : PySem.W.Frag) : List V → Hp → VK → Prop := fun xs H Q => ∃ p ys, xs = [.ref p] ∧ ((SqL K H p ys ∧ ∀ l, H l = none → Q (.ref l) (upd H l (.tup ys))) ∨ (SqT K H p ys ∧ Q (.ref p) H))
theorem KvAt.kp {ms : List Addr} {H H' : Hp} (k : Kp ms H H') : ∀ {kvs : List (Key × V)} {ts : List (Str × List Str)} {R : List (List (List Int))}, KvAt H kvs ts R → KvAt H' kvs ts R
  | _, _, _, .nil => .nil
  | _, _, _, .cons a b => .cons (Im.kp k a) (b.kp k)
theorem KvAt.keys {H : Hp} : ∀ {kvs : List (Key × V)} {ts : List (Str × List Str)} {R : List (List (List Int))}, KvAt H kvs ts R → kvs.map (·.1) = ts.map fun t => Sum.inr t.1
  | _, _, _, .nil => rfl
  | _, _, _, .cons a b => by rw [List.map_cons, List.map_cons, b.keys]
theorem KvAt.snoc {H : Hp} {v : V} {t : Str × List Str} {r : List (List Int)} (hv : Im H 2 v (dRows r)) : ∀ {kvs : List (Key × V)} {ts : List (Str × List Str)} {R : List (List (List Int))}, KvAt H kvs ts R → KvAt H (kvs ++ [(.inr t.1, v)]) (ts ++ [t]) (R ++ [r])
  | _, _, _, .nil => .cons hv .nil
  | _, _, _, .cons a b => .cons a (b.snoc hv)
theorem inr_map (ts : List (Str × List Str)) : (ts.map fun t => (Sum.inr t.1 : Key)) = (ts.map (·.1)).map Sum.inr := by rw [List.map_map]; rfl
theorem inr_nd {ts : List (Str × List Str)} (h : (ts.map (·.1)).Nodup) : (ts.map fun t => (Sum.inr t.1 : Key)).Nodup := by
  rw [inr_map]
  exact List.Pairwise.map _ (fun a b n e => n (Sum.inr.inj e)) h
/-- what the top has of the class Store -/
structure StCls (K : PySem.W.Frag) (mg : Str → Option Value) (C : Addr) : Prop where
  cl : Cls K C
  nS : NoAttr K C "shape"
  nK : NoAttr K C "kept"
  mgC : mg "Store" = some (.ref C)
section
variable {P : Program} {w : World} {K : PySem.W.Frag} {mg : Str → Option Value} {base : Heap}
end
end Fm

namespace Fm
open PySem PySem.Spec PyProof.Rows L2
/-! ### blocks -/
abbrev Blk := Str × List Str × List Str
def dBlk (b : Blk) : PyData := .tuple [.str b.1, .tuple (b.2.1.map .str), .tuple (b.2.2.map .str)]
structure BlkG (b : Blk) : Prop where
  nm : IsNm b.1
  k3 : b.2.1.length ≤ 3
  s1 : 1 ≤ b.2.2.length
  s3 : b.2.2.length ≤ 3
  nms : ∀ w ∈ b.2.1 ++ b.2.2, IsNm w
  nd : (b.2.1 ++ b.2.2).Nodup
def BlkD (d : PyData) (b : Blk) : Prop := ∃ dk ds, d = .tuple [.str b.1, dk, ds] ∧ RowD dk (b.2.1.map .str) ∧ RowD ds (b.2.2.map .str) ∧ BlkG b
theorem BlkG.kN {b : Blk} (h : BlkG b) {d : PyData} (r : RowD d (b.2.1.map .str)) : NmsD 0 3 d b.2.1 := ⟨r, fun w hw => h.nms w (List.mem_append_left _ hw), (List.nodup_append.mp h.nd).1, Nat.zero_le _, h.k3⟩
theorem BlkG.sN {b : Blk} (h : BlkG b) {d : PyData} (r : RowD d (b.2.2.map .str)) : NmsD 1 3 d b.2.2 := ⟨r, fun w hw => h.nms w (List.mem_append_right _ hw), (List.nodup_append.mp h.nd).2.1, h.s1, h.s3⟩
theorem BlkG.aN {b : Blk} (h : BlkG b) {d : PyData} (r : RowD d ((b.2.1 ++ b.2.2).map .str)) : NmsD 1 6 d (b.2.1 ++ b.2.2) := ⟨r, h.nms, h.nd, by rw [List.length_append]; have := h.s1; omega, by rw [List.length_append]; have := h.s3; have := h.k3; omega⟩
theorem dtAll_strs_inv {S : Addr → Prop} {q : Bool} {H : Hp} {n : Nat} : ∀ {ws : List Str} {vs : List V}, DtAll S q H n vs (ws.map PyData.str) → vs = ws.map V.str
  | [], _, h => by cases h; rfl
  | w :: ws, _, h => by
    obtain ⟨v, vs', rfl, h1, h2⟩ := DtAll.consI h
    obtain ⟨rfl, _⟩ := h1.strI
    rw [dtAll_strs_inv h2]; rfl
/-- a block as it stands at the heap -/
theorem BlkD.at {S : Addr → Prop} {qq : Bool} {H : Hp} {n : Nat} {x : V} {d : PyData} {b : Blk} (hx : Dt S qq H n x d) (hb : BlkD d b) : ∃ a m v2 v3 dk ds, x = .ref a ∧ n = m + 1 ∧ H a = some (.tup [.str b.1, .ref v2, .ref v3]) ∧ Dt S qq H m (.ref v2) dk ∧ Dt S qq H m (.ref v3) ds ∧ RowD dk (b.2.1.map .str) ∧ RowD ds (b.2.2.map .str) ∧ RwAt H v2 (b.2.1.map V.str) ∧ RwAt H v3 (b.2.2.map V.str) := by
  obtain ⟨dk, ds, rfl, r1, r2, g⟩ := hb
  obtain ⟨a, m, xs, rfl, rfl, ha, g0⟩ := Dt.tupI hx
  obtain ⟨v1, w1, rfl, h1, g1⟩ := g0.consI
  obtain ⟨v2, w2, rfl, h2, g2⟩ := g1.consI
  obtain ⟨v3, w3, rfl, h3, g3⟩ := g2.consI
  have e := g3.nilI
  subst e
  have e := h1.strI.1; subst e
  obtain ⟨m2, p2, ys, rfl, rfl, rx, _, _, ax⟩ := h2.rowI r1
  obtain ⟨m3, p3, zs, rfl, _, rz, _, _, az⟩ := h3.rowI r2
  have e := dtAll_strs_inv ax; subst e
  have e := dtAll_strs_inv az; subst e
  exact ⟨a, _, p2, p3, _, _, rfl, rfl, ha, h2, h3, r1, r2, rx, rz⟩
def spIsBlk : Sp := fun vs H Q _ => ∃ (S : Addr → Prop) (qq : Bool) (n : Nat) (x : V) (d : PyData) (b : Blk), vs = [x] ∧ Dt S qq H n x d ∧ BlkD d b ∧ ∀ H', Kp [] H H' → Q (.bl true) H'
section
variable {P : Program} {w : World} {K : PySem.W.Frag} {mg : Str → Option Value} {base : Heap}
theorem ok_is_block (B : Bi mg) (D : Dfn K mg "is_block" s_is_block ["thing"]) (G_is_name : Has P w K mg base CX0 "is_name" ["thing"] 1 spIsName) (G_are_names : Has P w K mg base CX0 "are_names" ["thing", "least", "most"] 2 spAreNames) : Has P w K mg base CX0 "is_block" ["thing"] 3 spIsBlk := by
  refine D.has sc_is_block (fun vs H Q E h => ?_) (fun f cdv A outer s H vs Q E hr h => ?_)
  · obtain ⟨S, qq, n, x, d, b, rfl, _⟩ := h; rfl
  · obtain ⟨S, qq, n, x, d, b, rfl, hx, hb, k⟩ := h
    have hu := hu_of hr
    refine ⟨_, (pss_cons (ps_if (PW.pt (pw_or (pt_not (pt_val (pe_callB call_isi (by rfl) B.isinstance (by decide +kernel) (pa_cons (pv 0) (pa_cons (pe_bltn (v := .ty "tuple") (by rfl) B.tuple (by decide +kernel) rfl) pa_nil))))) (pw_or (pt_cmpR op_ne (pe_callB call_len (by rfl) B.len PySem.boot_len (pa_cons (pv 0) pa_nil)) pe_int (nomark _)) (pw_or1 (pt_not (pt_val (pe_has G_is_name (hr.mono (by omega)) (pa_cons (pe_ix (r := rIxT K) ix_tup (pv 0) pe_int (fun _ _ => rfl)) pa_nil))))))))
  (pss_one (ps_ret pe_bl))
  pss_nil)
  (pss_cons (ps_if (PW.pt (pw_or (pt_not (pt_val (pe_has G_are_names (hr.mono (by omega)) (pa_cons (pe_ix (r := rIxT K) ix_tup (pv 0) pe_int (fun _ _ => rfl)) (pa_cons pe_int (pa_cons pe_int pa_nil)))))) (pw_or1 (pt_not (pt_val (pe_has G_are_names (hr.mono (by omega)) (pa_cons (pe_ix (r := rIxT K) ix_tup (pv 0) pe_int (fun _ _ => rfl)) (pa_cons pe_int (pa_cons pe_int pa_nil)))))))))
  (pss_one (ps_ret pe_bl))
  pss_nil)
  (pss_one (ps_ret (pe_has G_are_names (hr.mono (by omega)) (pa_cons (pe_op op_cat (pe_callTy call_list_of (by rfl) B.list (by decide +kernel) (pa_cons (pe_ix (r := rIxT K) ix_tup (pv 0) pe_int (fun _ _ => rfl)) pa_nil)) (pe_callTy call_list_of (by rfl) B.list (by decide +kernel) (pa_cons (pe_ix (r := rIxT K) ix_tup (pv 0) pe_int (fun _ _ => rfl)) pa_nil))) (pa_cons pe_int (pa_cons pe_int pa_nil)))))))), ?_⟩
    have hsz : sizeLine = 16777216 := rfl
    obtain ⟨a, m, v2, v3, dk, ds, rfl, rfl, ha, h2, h3, r1, r2, rx, rz⟩ := hb.at hx
    obtain ⟨_, _, _, _, _, g⟩ := hb
    have hT : SqT K H a [.str b.1, .ref v2, .ref v3] := SqT.of ha
    refine ⟨_, rfl, _, _, _, _, _, rfl, .ty _, .base (.tup ha), kit_ty (kb_tuple (.tuple [])), _, rfl, iteF ?_⟩
    refine ⟨_, rfl, _, _, rfl, .inr ⟨_, hT, rfl⟩, rfl, _, rfl, iteFs rfl ?_⟩
    refine ⟨_, rfl, a, _, 0, .str b.1, rfl, rfl, hT, rfl, S, qq, 0, .str b.1, .str b.1, rfl, .str b.1 (by have := g.nm.2.1; omega), _, rfl, ?_⟩
    rw [bP_t (show NmD (.str b.1) from ⟨_, rfl, g.nm⟩)]
    refine iteF ?_
    refine ⟨_, rfl, a, _, 1, .ref v2, rfl, rfl, hT, rfl, S, qq, m, .ref v2, dk, 0, 3, rfl, h2, fun H1 k1 => ⟨_, rfl, ?_⟩⟩
    rw [bP_t (show ∃ ws, NmsD 0 3 dk ws from ⟨_, g.kN r1⟩)]
    refine iteF ?_
    have hT1 : SqT K H1 a [.str b.1, .ref v2, .ref v3] := SqT.of (k1.tp _ _ ha)
    refine ⟨_, rfl, a, _, 2, .ref v3, rfl, rfl, hT1, rfl, S, qq, m, .ref v3, ds, 1, 3, rfl, h3.keep k1, fun H2 k2 => ⟨_, rfl, ?_⟩⟩
    rw [bP_t (show ∃ ws, NmsD 1 3 ds ws from ⟨_, g.sN r2⟩)]
    refine iteF ?_
    have k12 := k1.trans k2
    have hT2 : SqT K H2 a [.str b.1, .ref v2, .ref v3] := SqT.of (k12.tp _ _ ha)
    have rx2 := rx.keep k12
    have rz2 := rz.keep k12
    refine ⟨_, rfl, a, _, 1, .ref v2, rfl, rfl, hT2, rfl, v2, _, rfl, rx2.sq, fun l hl => ?_⟩
    have k3 : Kp [] H2 (upd H2 l (.lst (b.2.1.map V.str))) := Kp.new hl
    have hll : upd H2 l (.lst (b.2.1.map V.str)) l = some (.lst (b.2.1.map V.str)) := upd_same
    generalize upd H2 l (.lst (b.2.1.map V.str)) = H3 at k3 hll
    have hT3 : SqT K H3 a [.str b.1, .ref v2, .ref v3] := SqT.of ((k12.trans k3).tp _ _ ha)
    refine ⟨_, rfl, a, _, 2, .ref v3, rfl, rfl, hT3, rfl, v3, _, rfl, (rz2.keep k3).sq, fun l' hl' => ?_⟩
    have k4 : Kp [] H3 (upd H3 l' (.lst (b.2.2.map V.str))) := Kp.new hl'
    have hll4 := k4.at_ _ _ hll (fun z => nomatch z)
    have hl'4 : upd H3 l' (.lst (b.2.2.map V.str)) l' = some (.lst (b.2.2.map V.str)) := upd_same
    generalize upd H3 l' (.lst (b.2.2.map V.str)) = H4 at k4 hll4 hl'4
    refine ⟨l, l', _, _, rfl, rfl, hll4, hl'4, by rw [List.length_map, List.length_map]; have := g.s3; have := g.k3; omega, fun r hr' => ?_⟩
    rw [← List.map_append]
    have k5 : Kp [] H4 (upd H4 r (.lst ((b.2.1 ++ b.2.2).map V.str))) := Kp.new hr'
    refine ⟨fun _ => True, true, 1, .ref r, .list ((b.2.1 ++ b.2.2).map .str), 1, 6, rfl, .lst (.inl upd_same) ⟨by rw [List.length_map, List.length_append]; have := g.s3; have := g.k3; omega, trivial⟩ (dtAll_strs fun w hw => by have := (g.nms w hw).2.1; omega), fun H5 k6 => ?_⟩
    rw [bP_t (show ∃ ws, NmsD 1 6 (.list ((b.2.1 ++ b.2.2).map .str)) ws from ⟨_, g.aN (.inl rfl)⟩)]
    exact k _ ((k12.trans k3).trans ((k4.trans k5).trans k6))
end
theorem A2.getA' {α β : Type} {R : α → β → Prop} {as : List α} {bs : List β} (h : A2 R as bs) {i : Nat} {b : β} (e : bs[i]? = some b) : ∃ a, as[i]? = some a ∧ R a b := h.get e
/-! ### what is kept of a statement: tuples alone -/
def dPrd (p : Prd) : PyData := .tuple [.int p.1, .tuple (p.2.map dRd)]
def dPrs (ps : List Prd) : PyData := .tuple (ps.map dPrd)
def dAdds (adds : List (List Prd)) : PyData := .tuple (adds.map dPrs)
theorem Dt.rdIm {S : Addr → Prop} {q : Bool} {H : Hp} {n k : Nat} {v : V} {p : Fac} (h : Dt S q H n v (dRd p)) : Im H (k + 1) v (dRd p) := by
  obtain ⟨a, rfl, ha, l1, l2⟩ := h.rdI
  exact .tup ha ⟨by simp, ⟨_, ha⟩⟩ (.cons (.str _ (by decide)) (.cons (.str _ l1) (.cons (.str _ l2) .nil)))
theorem Dt.tmIm {S : Addr → Prop} {q : Bool} {H : Hp} {n k : Nat} {v : V} {t : Tm} (h : Dt S q H n v (dTm t)) : Im H (k + 1) v (dTm t) := by
  cases t with
  | val i => have e := h.intI; subst e; exact .int i
  | of v f => exact Dt.rdIm (p := (v, f)) h
theorem DtAll.ims {α : Type} {f : α → PyData} {S : Addr → Prop} {q : Bool} {H : Hp} {n k : Nat} (hf : ∀ v a, Dt S q H n v (f a) → Im H k v (f a)) : ∀ {vs : List V} {as : List α}, DtAll S q H n vs (as.map f) → ImAll H k vs (as.map f)
  | _, [], h => by cases h; exact .nil
  | _, a :: as, h => by
    obtain ⟨v, vs', rfl, h1, h2⟩ := DtAll.consI h
    exact .cons (hf _ _ h1) (DtAll.ims hf h2)
theorem tup_row {K : PySem.W.Frag} {H : Hp} {p : Addr} {xs : List V} {k : Nat} {ds : List PyData} {Q : VK} (hr : RwAt H p xs) (hl : xs.length ≤ 1000000) (ax : ImAll H k xs ds) (q : ∀ a H', Kp [] H H' → Im H' (k + 1) (.ref a) (.tuple ds) → Q (.ref a) H') : rTupO K [.ref p] H Q := by
  refine ⟨p, xs, rfl, ?_⟩
  rcases hr with r | r
  · exact .inl ⟨.inl r, fun l hl' => q l _ (Kp.new hl') (.tup upd_same ⟨hl, ⟨_, upd_same⟩⟩ (ax.kp (Kp.new (ms := []) hl')))⟩
  · exact .inr ⟨SqT.of r, q p H (Kp.refl _) (.tup r ⟨hl, ⟨_, r⟩⟩ ax)⟩
theorem lc_im {K : PySem.W.Frag} {ti : TE} {g : TG} {te : TE} {vs : List Nat} {σ : L2.St} {H : Hp} {Q : VK} {p : Addr} {xs : List V} {ds : List PyData} {k : Nat} (hti : ∀ Q : V → Hp → Prop, Q (.ref p) H → ti σ H Q) (hr : RwAt H p xs) (len : xs.length = ds.length) (small : xs.length ≤ 1000)
    (hs : ∀ (i : Nat) (x : V) (d : PyData) (H1 : Hp) (R : VK), Kp [] H H1 → xs[i]? = some x → ds[i]? = some d → (∀ y H4, Kp [] H1 H4 → Im H4 k y d → R y H4) → g x (wipe σ vs) H1 fun σ2 H2 => wipe σ2 vs = wipe σ vs ∧ te σ2 H2 R)
    (hd : ∀ D zs H', H' D = some (.lst zs) → ImAll H' k zs ds → Kp [] H H' → Q (.ref D) H') : tLc (fun σ H R => iList K ti σ H R ∨ iTup K ti σ H R) g tYes te vs σ H Q := by
  refine lc_rows hti hr (fun L i H' => ∃ zs, H' L = some (.lst zs) ∧ ImAll H' k zs (ds.take i) ∧ zs.length = i ∧ Kp [] H H') (fun L hL => ⟨[], upd_same, .nil, rfl, Kp.new hL⟩) (fun L i H' _ h => by
    obtain ⟨_, _, _, _, h⟩ := h
    exact ⟨[], h, fun z => nomatch z⟩) (fun L i x H1 hL h hx => ?_) (fun L H' hL h => ?_)
  · obtain ⟨zs, h1, h2, h3, h4⟩ := h
    have il : i < xs.length := (List.getElem?_eq_some_iff.mp hx).1
    obtain ⟨d, hdd⟩ : ∃ d, ds[i]? = some d := ⟨_, List.getElem?_eq_getElem (by omega)⟩
    refine hs i x d H1 _ h4 hx hdd fun y H4 k4 iy => ⟨zs, k4.at_ _ _ h1 (fun z => nomatch z), by rw [h3]; exact small1000 (by omega), zs ++ [y], upd_same, ?_, by simp [h3], (h4.trans k4).late hL⟩
    have kL : Kp [L] H4 (upd H4 L (.lst (zs ++ [y]))) := Kp.updL (k4.at_ _ _ h1 (fun z => nomatch z)) (by simp)
    rw [take_snoc hdd]
    exact (ImAll.kp (k4.zero.trans kL) h2).append (.cons (iy.kp kL) .nil)
  · obtain ⟨zs, h1, h2, h3, h4⟩ := h
    rw [len, List.take_length] at h2
    exact hd L zs H' h1 h2 h4
theorem im_tup {H : Hp} {k : Nat} {zs : List V} {ds : List PyData} {l : Addr} (hl : H l = none) (a : ImAll H k zs ds) (n : zs.length ≤ 1000000) : Im (upd H l (.tup zs)) (k + 1) (.ref l) (.tuple ds) := .tup upd_same ⟨n, ⟨_, upd_same⟩⟩ (a.kp (Kp.new (ms := []) hl))
def spKeptAdds : Sp := fun vs H Q _ => ∃ (S : Addr → Prop) (qq : Bool) (n : Nat) (x : V) (da : PyData) (es : List PyData) (adds : List (List Prd)), vs = [x] ∧ Dt S qq H n x da ∧ RowD da es ∧ A2 PrsD es adds ∧ adds.length ≤ 1000 ∧ (∀ ps ∈ adds, ps.length ≤ 1000) ∧
  ∀ a H', Kp [] H H' → Im H' 5 (.ref a) (dAdds adds) → Q (.ref a) H'
section
variable {P : Program} {w : World} {K : PySem.W.Frag} {mg : Str → Option Value} {base : Heap}
theorem ok_kept_adds (B : Bi mg) (D : Dfn K mg "kept_adds" s_kept_adds ["adds"]) : Has P w K mg base CX0 "kept_adds" ["adds"] 1 spKeptAdds := by
  refine D.has sc_kept_adds (fun vs H Q E h => ?_) (fun f cdv A outer s H vs Q E hr h => ?_)
  · obtain ⟨S, qq, n, x, da, es, adds, rfl, _⟩ := h; rfl
  · obtain ⟨S, qq, n, x, da, es, adds, rfl, hx, hr1, ha, la, lp, k⟩ := h
    refine ⟨_, (pss_one (ps_ret (pe_callTy call_tuple_of (by rfl) B.tuple (by decide +kernel) (pa_cons (pe_lc (own := [("products", 3)]) (g := gName 3) (by rfl) sc_kept_adds.nd (pi_or (pi_list (pv 0)) (pi_tup (pv 0))) (blkOk_by (own := [("products", 3)]) (N := N_kept_adds) (sc := defScope s_kept_adds) (by decide +kernel)) (fun _ _ _ _ _ => (pg_name (i := 3) sc_kept_adds.nd rfl (by first | exact Or.inl rfl | exact Or.inr rfl))) (fun _ _ _ _ _ => pts_nil) (fun _ _ _ _ _ => (pe_callTy (r := rTupO K) call_tuple_of (by rfl) B.tuple (by decide +kernel) (pa_cons (pe_lc (wi := (fun σ H R => iList K (tVar 3) σ H R ∨ iTup K (tVar 3) σ H R)) (own := [("multiple", 1), ("factors", 2)]) (g := gTup K 2 (gCons (gName 1) (gCons (gName 2) gNil))) (by rfl) sc_kept_adds.nd (pi_or (pi_list (pv 3)) (pi_tup (pv 3))) (blkOk_by (own := [("multiple", 1), ("factors", 2)]) (N := N_kept_adds) (sc := ({ kind := ScopeKind.function, names := [(".0", .local), ("products", .local), ("tuple", .globalImplicit)], isGenerator := false, isCoroutine := false } : Scope)) (by decide +kernel)) (fun _ _ _ _ _ => (pg_tup rfl (pgs_cons (pg_name (i := 1) sc_kept_adds.nd rfl (by first | exact Or.inl rfl | exact Or.inr rfl)) (pgs_cons (pg_name (i := 2) sc_kept_adds.nd rfl (by first | exact Or.inl rfl | exact Or.inr rfl)) pgs_nil)))) (fun _ _ _ _ _ => pts_nil) (fun _ _ _ _ _ => (pe_tup (pa_cons (pv 1) (pa_cons (pe_callTy (r := rTupO K) call_tuple_of (by rfl) B.tuple (by decide +kernel) (pa_cons (pv 2) pa_nil)) pa_nil))))) pa_nil)))) pa_nil)))), ?_⟩
    obtain ⟨m, p, xs, rfl, rfl, rx, lx, _, ax⟩ := hx.rowI hr1
    have lxs : xs.length = adds.length := by rw [ax.len, ha.len]
    dsimp only [tRet, tCB, tCons]
    refine lc_im (k := 4) (ds := adds.map dPrs) ?_ rx (by rw [lxs, List.length_map]) (by omega) (fun i u d H1 R k1 hu hd kR => ?_) fun D' zs H1 h1 i1 k1 => ?_
    · exact fun Q h => ⟨_, rfl, h⟩
    · rw [List.getElem?_map] at hd
      cases ep : adds[i]? with
      | none => rw [ep] at hd; cases hd
      | some ps =>
      rw [ep] at hd
      cases hd
      obtain ⟨e, he, fs, rf, af⟩ := ha.getA' ep
      obtain ⟨e', he', iu⟩ := ax.getV hu
      rw [he] at he'
      cases he'
      obtain ⟨m2, pp, ys, rfl, rfl, ry, ly, _, ay⟩ := (iu.keep k1).rowI rf
      have lys : ys.length = ps.length := by rw [ay.len, af.len]
      have lps := lp ps (List.mem_of_getElem? ep)
      refine ⟨rfl, ?_⟩
      dsimp only [tCB, tCons]
      refine lc_im (k := 3) (ds := ps.map dPrd) ?_ ry (by rw [lys, List.length_map]) (by omega) (fun j u2 d2 H2 R2 k2 hu2 hd2 kR2 => ?_) fun D2 zs2 H3 h3 i3 k3 => ?_
      · exact fun Q h => ⟨_, rfl, h⟩
      · rw [List.getElem?_map] at hd2
        cases ep2 : ps[j]? with
        | none => rw [ep2] at hd2; cases hd2
        | some pr =>
        rw [ep2] at hd2
        cases hd2
        obtain ⟨e2, he2, df, rfl, rdf⟩ := af.getA' ep2
        obtain ⟨e2', he2', iu2⟩ := ay.getV hu2
        rw [he2] at he2'
        cases he2'
        obtain ⟨a2, m3, zs3, rfl, rfl, ha2, g0⟩ := Dt.tupI (iu2.keep k2)
        obtain ⟨v1, w1, rfl, h1, g1⟩ := g0.consI
        obtain ⟨v2, w2, rfl, h2, g2⟩ := g1.consI
        have e := g2.nilI
        subst e
        have e := h1.intI
        subst e
        obtain ⟨m4, fb, vs4, rfl, rfl, r4, l4, _, a4⟩ := h2.rowI rdf
        refine ⟨a2, _, rfl, SqT.of ha2, rfl, _, _, rfl, _, _, rfl, rfl, rfl, ?_⟩
        refine ⟨_, rfl, _, rfl, ?_⟩
        dsimp only [tNil]
        refine tup_row r4 l4 (DtAll.ims (f := dRd) (k := 1) (fun v a h => h.rdIm) a4) fun t H4 k4 it => ⟨by show 2 ≤ sizeLine; decide, fun e5 he5 => ?_⟩
        exact kR2 _ _ (k4.snoc he5) (.tup upd_same ⟨by simp, ⟨_, upd_same⟩⟩ (.cons (.int _) (.cons (it.kp (Kp.new (ms := []) he5)) .nil)))
      · refine ⟨D2, zs2, rfl, .inl ⟨SqL.of h3, fun l hl => kR _ _ (k3.snoc hl) ?_⟩⟩
        exact im_tup hl i3 (by have := i3.len; rw [List.length_map] at this; omega)
    · refine ⟨D', zs, rfl, .inl ⟨SqL.of h1, fun l hl => k l _ (k1.snoc hl) ?_⟩⟩
      exact im_tup hl i1 (by have := i1.len; rw [List.length_map] at this; omega)
end
end Fm

namespace Fm
open PySem PySem.Spec PyProof.Rows L2
/-! ### kept_statement -/
mutual
def dSt : Stm → PyData
  | .put b ts adds => .tuple [.str "put", .str b, .tuple (ts.map dTm), dAdds adds]
  | .same a b body => .tuple [.str "same", dTm a, dTm b, .tuple (dSts body)]
  | .scan v t body => .tuple [.str "scan", .str v, .str t, .tuple (dSts body)]
  | .run v t f body => .tuple [.str "run", .str v, .str t, .str f, .tuple (dSts body)]
  | .seek v t f a body => .tuple [.str "seek", .str v, .str t, .str f, dTm a, .tuple (dSts body)]
  | .each v b body => .tuple [.str "each", .str v, .str b, .tuple (dSts body)]
  | .rise v b k body => .tuple [.str "rise", .str v, .str b, .str k, .tuple (dSts body)]
  | .look v b ts body => .tuple [.str "look", .str v, .str b, .tuple (ts.map dTm), .tuple (dSts body)]
def dSts : List Stm → List PyData
  | [] => []
  | s :: ss => dSt s :: dSts ss
end

theorem dSts_map (ss : List Stm) : dSts ss = ss.map dSt := by
  induction ss with
  | nil => rw [dSts]; rfl
  | cons s ss ih => rw [dSts, ih]; rfl
def PutB (ts : List Tm) (adds : List (List Prd)) : Prop := ts.length ≤ 1000 ∧ adds.length ≤ 1000 ∧ ∀ ps ∈ adds, ps.length ≤ 1000
def Dp : Nat → Stm → Prop
  | _, .put _ ts adds => PutB ts adds
  | 0, _ => False
  | n + 1, .look _ _ ts body => body.length ≤ 1000 ∧ (∀ s ∈ body, Dp n s) ∧ ts.length ≤ 1000
  | n + 1, .same _ _ body => body.length ≤ 1000 ∧ ∀ s ∈ body, Dp n s
  | n + 1, .scan _ _ body => body.length ≤ 1000 ∧ ∀ s ∈ body, Dp n s
  | n + 1, .run _ _ _ body => body.length ≤ 1000 ∧ ∀ s ∈ body, Dp n s
  | n + 1, .seek _ _ _ _ body => body.length ≤ 1000 ∧ ∀ s ∈ body, Dp n s
  | n + 1, .each _ _ body => body.length ≤ 1000 ∧ ∀ s ∈ body, Dp n s
  | n + 1, .rise _ _ _ body => body.length ≤ 1000 ∧ ∀ s ∈ body, Dp n s
def CEnvB (E : CEnv) : Prop := ∀ b ks ss, lkA E.blks b = some (ks, ss) → ks.length ≤ 1000 ∧ ss.length ≤ 1000
theorem ckl_mem {E : CEnv} {top n : Nat} : ∀ {ss : List Stm} {k : Nat} {ar : Ar} {cs cs' : Cs}, CkL E top n k ar cs ss cs' → ∀ s ∈ ss, ∃ k ar cs cs', Ck E top n k ar cs s cs'
  | [], _, _, _, _, _, s, h => nomatch h
  | s0 :: ss, _, _, _, _, h, s, hs => by
    cases h with
    | cons a b =>
      rcases List.mem_cons.mp hs with rfl | hs
      · exact ⟨_, _, _, _, a⟩
      · exact ckl_mem b s hs
theorem ck_dp {E : CEnv} (hE : CEnvB E) {top : Nat} : ∀ {n k : Nat} {ar : Ar} {cs cs' : Cs} {s : Stm}, Ck E top n k ar cs s cs' → Dp n s := by
  intro n
  induction n with
  | zero =>
    intro k ar cs cs' s h
    cases h with
    | put _ _ o =>
      obtain ⟨ks, ss, h, _, l1, _, l2, l3, _⟩ := o
      have := hE _ _ _ h
      exact ⟨by omega, by omega, fun ps hp => by have := (l3 ps hp).1; omega⟩
  | succ n ih =>
    have ihl : ∀ {ss : List Stm} {k : Nat} {ar : Ar} {cs cs' : Cs}, CkL E top n k ar cs ss cs' → ∀ s ∈ ss, Dp n s := fun h s hs => by
      obtain ⟨_, _, _, _, h⟩ := ckl_mem h s hs
      exact ih h
    intro k ar cs cs' s h
    cases h with
    | put _ _ o =>
      obtain ⟨ks, ss, h, _, l1, _, l2, l3, _⟩ := o
      have := hE _ _ _ h
      exact ⟨by omega, by omega, fun ps hp => by have := (l3 ps hp).1; omega⟩
    | same _ _ b _ _ g => exact ⟨by have := b.2; omega, ihl g⟩
    | scan _ _ b _ _ _ g => exact ⟨by have := b.2; omega, ihl g⟩
    | run _ _ b _ _ _ _ g => exact ⟨by have := b.2; omega, ihl g⟩
    | seek _ _ b _ _ _ _ _ g => exact ⟨by have := b.2; omega, ihl g⟩
    | each _ _ b _ _ _ g => exact ⟨by have := b.2; omega, ihl g⟩
    | rise _ _ b _ _ _ _ g => exact ⟨by have := b.2; omega, ihl g⟩
    | look _ _ b _ _ e l _ g => exact ⟨by have := b.2; omega, ihl g, by have := (hE _ _ _ e.1).1; omega⟩
theorem dp_body {n : Nat} {s : Stm} (h : Dp n s) (hp : isPut s = false) : ∃ m, n = m + 1 ∧ (bodyOf s).length ≤ 1000 ∧ (∀ t ∈ bodyOf s, Dp m t) ∧ ∀ v b ts body, s = .look v b ts body → ts.length ≤ 1000 := by
  cases n with
  | zero => cases s <;> first | exact h.elim | cases hp
  | succ m =>
    cases s with
    | put _ _ _ => cases hp
    | look _ _ _ _ => exact ⟨m, rfl, h.1, h.2.1, fun _ _ _ _ e => by cases e; exact h.2.2⟩
    | same _ _ _ => exact ⟨m, rfl, h.1, h.2, fun _ _ _ _ e => by cases e⟩
    | scan _ _ _ => exact ⟨m, rfl, h.1, h.2, fun _ _ _ _ e => by cases e⟩
    | run _ _ _ _ => exact ⟨m, rfl, h.1, h.2, fun _ _ _ _ e => by cases e⟩
    | seek _ _ _ _ _ => exact ⟨m, rfl, h.1, h.2, fun _ _ _ _ e => by cases e⟩
    | each _ _ _ => exact ⟨m, rfl, h.1, h.2, fun _ _ _ _ e => by cases e⟩
    | rise _ _ _ _ => exact ⟨m, rfl, h.1, h.2, fun _ _ _ _ e => by cases e⟩
theorem dp_put {n : Nat} {b : Str} {ts : List Tm} {adds : List (List Prd)} (h : Dp n (.put b ts adds)) : PutB ts adds := by
  cases n <;> exact h
theorem cut_last {xs : List V} {y : V} : cutV (xs ++ [y]) none (some (-1)) = xs := by
  have e : HT.sIx (xs ++ [y]).length (xs ++ [y]).length (some (-1)) = xs.length := by
    show (if (-1 : Int) < 0 then ((-1 : Int) + ((xs ++ [y]).length : Int)).toNat else min (-1 : Int).toNat (xs ++ [y]).length) = _
    rw [if_pos (by decide), List.length_append, List.length_singleton]
    omega
  unfold cutV
  rw [e, HT.sIx_none, List.drop_zero, Nat.sub_zero, List.take_left]
theorem notWholeL {xs : List V} {y : V} : ¬ (HT.sIx (xs ++ [y]).length 0 none = 0 ∧ HT.sIx (xs ++ [y]).length (xs ++ [y]).length (some (-1)) = (xs ++ [y]).length) := fun z => by
  have e : HT.sIx (xs ++ [y]).length (xs ++ [y]).length (some (-1)) = xs.length := by
    show (if (-1 : Int) < 0 then ((-1 : Int) + ((xs ++ [y]).length : Int)).toNat else min (-1 : Int).toNat (xs ++ [y]).length) = _
    rw [if_pos (by decide), List.length_append, List.length_singleton]
    omega
  have z := z.2
  rw [e, List.length_append, List.length_singleton] at z
  omega
/-- a statement with a body, as it stands at the heap -/
theorem StD.heads {S : Addr → Prop} {qq : Bool} {H : Hp} {n : Nat} {x : V} {d : PyData} {s : Stm} (hx : Dt S qq H n x d) (h : StD d s) (hp : isPut s = false) : ∃ (a : Addr) (m : Nat) (z : Str) (xs : List V) (bd : V) (db : PyData) (es : List PyData), x = .ref a ∧ n = m + 1 ∧ H a = some (.tup (.str z :: xs ++ [bd])) ∧ z ≠ "put" ∧ z.length ≤ 1000000 ∧ Dt S qq H m bd db ∧ RowD db es ∧ StDs es (bodyOf s) ∧ xs.length ≤ 4 ∧
    ((z ≠ "look" ∧ ∃ hs, dSt s = .tuple (.str z :: hs ++ [.tuple ((bodyOf s).map dSt)]) ∧ ∀ k, ImAll H (k + 1) xs hs) ∨ (z = "look" ∧ ∃ (v b : Str) (ts : List Tm) (y : V) (dk : PyData), s = .look v b ts (bodyOf s) ∧ xs = [.str v, .str b, y] ∧ Dt S qq H m y dk ∧ RowD dk (ts.map dTm) ∧ v.length ≤ 1000000 ∧ b.length ≤ 1000000)) := by
  cases h with
  | put r1 r2 r3 => cases hp
  | same r1 r2 =>
    obtain ⟨a, m, xs, rfl, rfl, ha, g0⟩ := Dt.tupI hx
    obtain ⟨v1, w1, rfl, h1, g1⟩ := g0.consI
    obtain ⟨e, _⟩ := h1.strI
    subst e
    obtain ⟨v2, w2, rfl, h2, g2⟩ := g1.consI
    obtain ⟨v3, w3, rfl, h3, g3⟩ := g2.consI
    obtain ⟨v4, w4, rfl, h4, g4⟩ := g3.consI
    have e := g4.nilI
    subst e
    exact ⟨a, m, _, [v2, v3], v4, _, _, rfl, rfl, ha, by decide, by decide, h4, r1, r2, by simp, .inl ⟨by decide, _, by rw [dSt, dSts_map]; rfl, fun k => .cons h2.tmIm (.cons h3.tmIm .nil)⟩⟩
  | scan r1 r2 =>
    obtain ⟨a, m, xs, rfl, rfl, ha, g0⟩ := Dt.tupI hx
    obtain ⟨v1, w1, rfl, h1, g1⟩ := g0.consI
    obtain ⟨e, _⟩ := h1.strI
    subst e
    obtain ⟨v2, w2, rfl, h2, g2⟩ := g1.consI
    obtain ⟨v3, w3, rfl, h3, g3⟩ := g2.consI
    obtain ⟨v4, w4, rfl, h4, g4⟩ := g3.consI
    have e := g4.nilI
    subst e
    obtain ⟨rfl, l2⟩ := h2.strI
    obtain ⟨rfl, l3⟩ := h3.strI
    exact ⟨a, m, _, [_, _], v4, _, _, rfl, rfl, ha, by decide, by decide, h4, r1, r2, by simp, .inl ⟨by decide, _, by rw [dSt, dSts_map]; rfl, fun k => .cons (.str _ l2) (.cons (.str _ l3) .nil)⟩⟩
  | each r1 r2 =>
    obtain ⟨a, m, xs, rfl, rfl, ha, g0⟩ := Dt.tupI hx
    obtain ⟨v1, w1, rfl, h1, g1⟩ := g0.consI
    obtain ⟨e, _⟩ := h1.strI
    subst e
    obtain ⟨v2, w2, rfl, h2, g2⟩ := g1.consI
    obtain ⟨v3, w3, rfl, h3, g3⟩ := g2.consI
    obtain ⟨v4, w4, rfl, h4, g4⟩ := g3.consI
    have e := g4.nilI
    subst e
    obtain ⟨rfl, l2⟩ := h2.strI
    obtain ⟨rfl, l3⟩ := h3.strI
    exact ⟨a, m, _, [_, _], v4, _, _, rfl, rfl, ha, by decide, by decide, h4, r1, r2, by simp, .inl ⟨by decide, _, by rw [dSt, dSts_map]; rfl, fun k => .cons (.str _ l2) (.cons (.str _ l3) .nil)⟩⟩
  | run r1 r2 =>
    obtain ⟨a, m, xs, rfl, rfl, ha, g0⟩ := Dt.tupI hx
    obtain ⟨v1, w1, rfl, h1, g1⟩ := g0.consI
    obtain ⟨e, _⟩ := h1.strI
    subst e
    obtain ⟨v2, w2, rfl, h2, g2⟩ := g1.consI
    obtain ⟨v3, w3, rfl, h3, g3⟩ := g2.consI
    obtain ⟨v4, w4, rfl, h4, g4⟩ := g3.consI
    obtain ⟨v5, w5, rfl, h5, g5⟩ := g4.consI
    have e := g5.nilI
    subst e
    obtain ⟨rfl, l2⟩ := h2.strI
    obtain ⟨rfl, l3⟩ := h3.strI
    obtain ⟨rfl, l4⟩ := h4.strI
    exact ⟨a, m, _, [_, _, _], v5, _, _, rfl, rfl, ha, by decide, by decide, h5, r1, r2, by simp, .inl ⟨by decide, _, by rw [dSt, dSts_map]; rfl, fun k => .cons (.str _ l2) (.cons (.str _ l3) (.cons (.str _ l4) .nil))⟩⟩
  | rise r1 r2 =>
    obtain ⟨a, m, xs, rfl, rfl, ha, g0⟩ := Dt.tupI hx
    obtain ⟨v1, w1, rfl, h1, g1⟩ := g0.consI
    obtain ⟨e, _⟩ := h1.strI
    subst e
    obtain ⟨v2, w2, rfl, h2, g2⟩ := g1.consI
    obtain ⟨v3, w3, rfl, h3, g3⟩ := g2.consI
    obtain ⟨v4, w4, rfl, h4, g4⟩ := g3.consI
    obtain ⟨v5, w5, rfl, h5, g5⟩ := g4.consI
    have e := g5.nilI
    subst e
    obtain ⟨rfl, l2⟩ := h2.strI
    obtain ⟨rfl, l3⟩ := h3.strI
    obtain ⟨rfl, l4⟩ := h4.strI
    exact ⟨a, m, _, [_, _, _], v5, _, _, rfl, rfl, ha, by decide, by decide, h5, r1, r2, by simp, .inl ⟨by decide, _, by rw [dSt, dSts_map]; rfl, fun k => .cons (.str _ l2) (.cons (.str _ l3) (.cons (.str _ l4) .nil))⟩⟩
  | look r0 r1 r2 =>
    obtain ⟨a, m, xs, rfl, rfl, ha, g0⟩ := Dt.tupI hx
    obtain ⟨v1, w1, rfl, h1, g1⟩ := g0.consI
    obtain ⟨e, _⟩ := h1.strI
    subst e
    obtain ⟨v2, w2, rfl, h2, g2⟩ := g1.consI
    obtain ⟨v3, w3, rfl, h3, g3⟩ := g2.consI
    obtain ⟨v4, w4, rfl, h4, g4⟩ := g3.consI
    obtain ⟨v5, w5, rfl, h5, g5⟩ := g4.consI
    have e := g5.nilI
    subst e
    obtain ⟨rfl, l2⟩ := h2.strI
    obtain ⟨rfl, l3⟩ := h3.strI
    exact ⟨a, m, _, [_, _, _], v5, _, _, rfl, rfl, ha, by decide, by decide, h5, r1, r2, by simp, .inr ⟨rfl, _, _, _, _, _, rfl, rfl, h4, r0, l2, l3⟩⟩
  | seek r1 r2 =>
    obtain ⟨a, m, xs, rfl, rfl, ha, g0⟩ := Dt.tupI hx
    obtain ⟨v1, w1, rfl, h1, g1⟩ := g0.consI
    obtain ⟨e, _⟩ := h1.strI
    subst e
    obtain ⟨v2, w2, rfl, h2, g2⟩ := g1.consI
    obtain ⟨v3, w3, rfl, h3, g3⟩ := g2.consI
    obtain ⟨v4, w4, rfl, h4, g4⟩ := g3.consI
    obtain ⟨v5, w5, rfl, h5, g5⟩ := g4.consI
    obtain ⟨v6, w6, rfl, h6, g6⟩ := g5.consI
    have e := g6.nilI
    subst e
    obtain ⟨rfl, l2⟩ := h2.strI
    obtain ⟨rfl, l3⟩ := h3.strI
    obtain ⟨rfl, l4⟩ := h4.strI
    exact ⟨a, m, _, [_, _, _, _], v6, _, _, rfl, rfl, ha, by decide, by decide, h6, r1, r2, by simp, .inl ⟨by decide, _, by rw [dSt, dSts_map]; rfl, fun k => .cons (.str _ l2) (.cons (.str _ l3) (.cons (.str _ l4) (.cons h5.tmIm .nil)))⟩⟩
end Fm

namespace Fm
open PySem PySem.Spec PyProof.Rows L2
/-! ### kept_statement: the walk -/
def spKept (n0 : Nat) : Sp := fun vs H Q _ => ∃ (S : Addr → Prop) (qq : Bool) (n : Nat) (x : V) (d : PyData) (s : Stm), vs = [x] ∧ Dt S qq H n x d ∧ StD d s ∧ Dp n0 s ∧ ∀ a H', Kp [] H H' → Im H' (2 * n0 + 6) (.ref a) (dSt s) → Q (.ref a) H'
def spKeptB : Nat → Sp
  | 0 => fun _ _ _ _ => False
  | n + 1 => spKept n
section
variable {P : Program} {w : World} {K : PySem.W.Frag} {mg : Str → Option Value} {base : Heap}
theorem step_kept (B : Bi mg) (D : Dfn K mg "kept_statement" s_kept_statement ["statement"]) (G_kept_adds : Has P w K mg base CX0 "kept_adds" ["adds"] 1 spKeptAdds) (n : Nat) (G_kept_statement : Has P w K mg base CX0 "kept_statement" ["statement"] (n + 1) (spKeptB n)) : Has P w K mg base CX0 "kept_statement" ["statement"] (n + 2) (spKept n) := by
  refine D.has sc_kept_statement (fun vs H Q E h => ?_) (fun f cdv A outer s H vs Q E hr h => ?_)
  · obtain ⟨S, qq, n, x, d, st, rfl, _⟩ := h; rfl
  · obtain ⟨S, qq, nn, x, d, st, rfl, hx, hst, hdp, k⟩ := h
    have hu := hu_of hr
    refine ⟨_, (pss_cons (ps_if (pt_cmpR op_eq (pe_ix (r := rIxT K) ix_tup (pv 0) pe_int (fun _ _ => rfl)) pe_str (nomark _))
  (pss_one (ps_ret (pe_tup (pa_cons pe_str (pa_cons (pe_ix (r := rIxT K) ix_tup (pv 0) pe_int (fun _ _ => rfl)) (pa_cons (pe_callTy (r := rTupO K) call_tuple_of (by rfl) B.tuple (by decide +kernel) (pa_cons (pe_ix (r := rIxT K) ix_tup (pv 0) pe_int (fun _ _ => rfl)) pa_nil)) (pa_cons (pe_has G_kept_adds (hr.mono (by omega)) (pa_cons (pe_ix (r := rIxT K) ix_tup (pv 0) pe_int (fun _ _ => rfl)) pa_nil)) pa_nil)))))))
  pss_nil)
  (pss_cons (ps_set (i := 1) sc_kept_statement.nd rfl (by first | exact Or.inl rfl | exact Or.inr rfl) (pe_callTy (r := rTupO K) call_tuple_of (by rfl) B.tuple (by decide +kernel) (pa_cons (pe_lc (own := [("part", 2)]) (g := gName 2) (by rfl) sc_kept_statement.nd (pi_or (pi_list (pe_ix (r := rIxT K) ix_tup (pv 0) (pe_un un_neg pe_int) (fun _ _ => rfl))) (pi_tup (pe_ix (r := rIxT K) ix_tup (pv 0) (pe_un un_neg pe_int) (fun _ _ => rfl)))) (blkOk_by (own := [("part", 2)]) (N := N_kept_statement) (sc := defScope s_kept_statement) (by decide +kernel)) (fun _ _ _ _ _ => (pg_name (i := 2) sc_kept_statement.nd rfl (by first | exact Or.inl rfl | exact Or.inr rfl))) (fun _ _ _ _ _ => pts_nil) (fun _ _ _ _ _ => (pe_has G_kept_statement hr (pa_cons (pv 2) pa_nil)))) pa_nil)))
  (pss_cons (ps_if (pt_cmpR op_eq (pe_ix (r := rIxT K) ix_tup (pv 0) pe_int (fun _ _ => rfl)) pe_str (nomark _))
  (pss_one (ps_ret (pe_op op_catA (pe_slice sl_tup (pv 0) po_none (po_some pe_int)) (pe_tup (pa_cons (pe_callTy (r := rTupO K) call_tuple_of (by rfl) B.tuple (by decide +kernel) (pa_cons (pe_ix (r := rIxT K) ix_tup (pv 0) pe_int (fun _ _ => rfl)) pa_nil)) (pa_cons (pv 1) pa_nil))))))
  pss_nil)
  (pss_one (ps_ret (pe_op op_catA (pe_slice sl_tup (pv 0) po_none (po_some (pe_un un_neg pe_int))) (pe_tup (pa_cons (pv 1) pa_nil)))))))), ?_⟩
    have hsz : sizeLine = 16777216 := rfl
    cases hp : isPut st with
    | true =>
      obtain ⟨b, ts, adds, rfl⟩ : ∃ b ts adds, st = .put b ts adds := by cases st <;> first | exact ⟨_, _, _, rfl⟩ | cases hp
      cases id hst with
      | put r1 r2 r3 =>
      obtain ⟨l1, l2, l3⟩ := dp_put hdp
      obtain ⟨a, m, xs, rfl, rfl, ha, g0⟩ := Dt.tupI hx
      obtain ⟨v1, w1, rfl, h1, g1⟩ := g0.consI
      obtain ⟨v2, w2, rfl, h2, g2⟩ := g1.consI
      obtain ⟨v3, w3, rfl, h3, g3⟩ := g2.consI
      obtain ⟨v4, w4, rfl, h4, g4⟩ := g3.consI
      have e := g4.nilI
      subst e
      have e := h1.strI.1; subst e
      obtain ⟨rfl, lb⟩ := h2.strI
      obtain ⟨m3, p3, ys, rfl, rfl, ry, ly, _, ay⟩ := h3.rowI r1
      have hT : SqT K H a [.str "put", .str b, .ref p3, v4] := SqT.of ha
      refine ⟨_, rfl, a, _, 0, .str "put", rfl, rfl, hT, rfl, rfl, _, rfl, iteTs rfl ?_⟩
      refine ⟨_, rfl, a, _, 1, .str b, rfl, rfl, hT, rfl, _, rfl, a, _, 2, .ref p3, rfl, rfl, hT, rfl, ?_⟩
      dsimp only [tNil]
      refine tup_row ry ly (DtAll.ims (f := dTm) (k := 1) (fun v a h => h.tmIm) ay) fun t H1 k1 it => ?_
      have hT1 : SqT K H1 a [.str "put", .str b, .ref p3, v4] := SqT.of (k1.tp _ _ ha)
      refine ⟨_, rfl, a, _, 3, v4, rfl, rfl, hT1, rfl, S, qq, _, v4, _, _, adds, rfl, h4.keep k1, r2, r3, l2, l3, fun t2 H2 k2 it2 => ⟨by show 4 ≤ sizeLine; decide, fun e he => k e _ ((k1.trans k2).snoc he) ?_⟩⟩
      rw [dSt]
      refine Dt.mono (show 6 ≤ 2 * n + 6 by omega) (.tup upd_same ⟨by simp, ⟨_, upd_same⟩⟩ (.cons (.str _ (by decide)) (.cons (.str _ lb) (.cons (Dt.mono (by decide) ((it.kp k2).kp (Kp.new (ms := []) he))) (.cons (it2.kp (Kp.new (ms := []) he)) .nil)))))
    | false =>
      obtain ⟨a, m, z, xs, bd, db, es, rfl, rfl, ha, nz, lz, hdb, rdb, sb, lxs, hcase⟩ := hst.heads hx hp
      obtain ⟨n', rfl, lb, dpb, ll⟩ := dp_body hdp hp
      have hT : SqT K H a ((.str z :: xs) ++ [bd]) := SqT.of ha
      have e0 : atI ((V.str z :: xs) ++ [bd]) 0 = some (.str z) := at0 (v := V.str z) (xs := xs ++ [bd])
      have eL : atI ((V.str z :: xs) ++ [bd]) (-1) = some bd := atLast (v := V.str z) (xs := xs ++ [bd]) (by simp) (by simp)
      refine ⟨_, rfl, a, _, 0, .str z, rfl, rfl, hT, e0, rfl, _, rfl, iteFs (decide_eq_false fun e => nz (V.str.inj e)) ?_⟩
      obtain ⟨m2, p, ys, rfl, rfl, rx, lx, _, ax⟩ := hdb.rowI rdb
      have lys : ys.length = (bodyOf st).length := by rw [ax.len, sb.len]
      dsimp only [tNext, tSeq, tAsg, tCB, tCons]
      refine lc_im (k := 2 * n' + 6) (ds := (bodyOf st).map dSt) ?_ rx (by rw [lys, List.length_map]) (by omega) (fun i u d H1 R k1 hu1 hd1 kR => ?_) fun D' zs H1 h1 i1 k1 => ?_
      · exact fun Q h => ⟨_, rfl, _, rfl, a, _, -1, .ref p, rfl, rfl, hT, eL, h⟩
      · rw [List.getElem?_map] at hd1
        cases es1 : (bodyOf st)[i]? with
        | none => rw [es1] at hd1; cases hd1
        | some s1 =>
        rw [es1] at hd1
        cases hd1
        obtain ⟨e, he, hst1⟩ := sb.get es1
        obtain ⟨e', he', iu⟩ := ax.getV hu1
        rw [he] at he'
        cases he'
        exact ⟨rfl, _, rfl, S, qq, m2, u, e, s1, rfl, iu.keep k1, hst1, dpb s1 (List.mem_of_getElem? es1), fun a2 H4 k4 i4 => kR _ _ k4 i4⟩
      · refine ⟨D', zs, rfl, .inl ⟨SqL.of h1, fun l hl => ?_⟩⟩
        have il := im_tup hl i1 (by have := i1.len; rw [List.length_map] at this; omega)
        have k2 := k1.snoc (o := .tup zs) hl
        generalize upd H1 l (.tup zs) = H2 at il k2
        have ha2 := k2.tp _ _ ha
        have hT2 : SqT K H2 a ((.str z :: xs) ++ [.ref p]) := SqT.of ha2
        refine ⟨_, rfl, a, _, 0, .str z, rfl, rfl, hT2, e0, rfl, _, rfl, ?_⟩
        rcases hcase with ⟨nl, hs, eS, hI⟩ | ⟨rfl, v, b, ts, y, dk, eS, rfl, hy, ry, lv, lb'⟩
        · refine iteFs (decide_eq_false fun e => nl (V.str.inj e)) ?_
          refine ⟨_, rfl, _, rfl, -1, rfl, a, _, rfl, hT2, notWholeL, fun e he => ?_⟩
          rw [cut_last]
          have k3 : Kp [] H2 (upd H2 e (.tup (.str z :: xs))) := Kp.new he
          have hee : upd H2 e (.tup (.str z :: xs)) e = some (.tup (.str z :: xs)) := upd_same
          generalize upd H2 e (.tup (.str z :: xs)) = H3 at k3 hee
          refine ⟨_, rfl, by show 1 ≤ sizeLine; decide, fun e2 he2 => ?_⟩
          have k4 : Kp [] H3 (upd H3 e2 (.tup [.ref l])) := Kp.new he2
          have h22 : upd H3 e2 (.tup [.ref l]) e2 = some (.tup [.ref l]) := upd_same
          have hee4 := k4.tp _ _ hee
          generalize upd H3 e2 (.tup [.ref l]) = H4 at k4 h22 hee4
          refine ⟨e, e2, _, _, rfl, rfl, SqT.of hee4, SqT.of h22, by simp; omega, (fun z => by cases z), (fun _ z => by cases z), fun _ _ p2 hp2 => k p2 _ (((k2.trans k3).trans k4).snoc hp2) ?_⟩
          rw [eS]
          have k5 : Kp [] H2 (upd H4 p2 (.tup (.str z :: xs ++ [.ref l]))) := (k3.trans k4).snoc hp2
          refine .tup (n := 2 * n' + 7) upd_same ⟨by simp; omega, ⟨_, upd_same⟩⟩ ?_
          exact .cons (.str _ lz) (((hI (2 * n' + 6)).kp ((k2.trans k3).trans k4 |>.snoc hp2)).append (.cons (il.kp k5) .nil))
        · refine iteTs rfl ?_
          refine ⟨_, rfl, 3, rfl, a, _, rfl, hT2, notWhole (by simp), fun e he => ?_⟩
          rw [show ((V.str "look" :: [V.str v, V.str b, y]) ++ [V.ref p]) = V.str "look" :: V.str v :: V.str b :: [y, V.ref p] from rfl, cut3]
          have k3 : Kp [] H2 (upd H2 e (.tup [.str "look", .str v, .str b])) := Kp.new he
          have hee : upd H2 e (.tup [.str "look", .str v, .str b]) e = some (.tup [.str "look", .str v, .str b]) := upd_same
          generalize upd H2 e (.tup [.str "look", .str v, .str b]) = H3 at k3 hee
          have k23 := k2.trans k3
          obtain ⟨m3, p3, ws, rfl, e3, rw3, lw3, _, aw3⟩ := (hy.keep k23).rowI ry
          have hT3 : SqT K H3 a ((.str "look" :: [.str v, .str b, .ref p3]) ++ [.ref p]) := SqT.of (k23.tp _ _ ha)
          refine ⟨_, rfl, a, _, 3, .ref p3, rfl, rfl, hT3, rfl, ?_⟩
          dsimp only [tNil]
          refine tup_row rw3 lw3 (DtAll.ims (f := dTm) (k := 1) (fun v a h => h.tmIm) aw3) fun t H4 k4 it => ?_
          refine ⟨_, rfl, by show 2 ≤ sizeLine; decide, fun e2 he2 => ?_⟩
          have k5 : Kp [] H4 (upd H4 e2 (.tup [.ref t, .ref l])) := Kp.new he2
          have h22 : upd H4 e2 (.tup [.ref t, .ref l]) e2 = some (.tup [.ref t, .ref l]) := upd_same
          generalize upd H4 e2 (.tup [.ref t, .ref l]) = H5 at k5 h22
          have k45 := k4.trans k5
          refine ⟨e, e2, _, _, rfl, rfl, SqT.of (k45.tp _ _ hee), SqT.of h22, by show 5 ≤ sizeLine; decide, (fun z => by cases z), (fun _ z => by cases z), fun _ _ p2 hp2 => k p2 _ ((k23.trans k45).snoc hp2) ?_⟩
          have k6 : Kp [] H5 (upd H5 p2 (.tup ([.str "look", .str v, .str b] ++ [.ref t, .ref l]))) := Kp.new hp2
          rw [eS, dSt, dSts_map]
          refine .tup (n := 2 * n' + 7) upd_same ⟨by simp, ⟨_, upd_same⟩⟩ ?_
          exact .cons (.str _ lz) (.cons (.str _ lv) (.cons (.str _ lb') (.cons (Dt.mono (by omega) ((it.kp k5).kp k6)) (.cons (il.kp ((k3.trans k45).trans k6)) .nil))))
theorem ok_kept_statement (B : Bi mg) (D : Dfn K mg "kept_statement" s_kept_statement ["statement"]) (G_kept_adds : Has P w K mg base CX0 "kept_adds" ["adds"] 1 spKeptAdds) : ∀ n : Nat, Has P w K mg base CX0 "kept_statement" ["statement"] (n + 2) (spKept n)
  | 0 => step_kept B D G_kept_adds 0 D.none
  | n + 1 => step_kept B D G_kept_adds (n + 1) (ok_kept_statement B D G_kept_adds n)
end
end Fm

namespace Fm
open PySem PySem.Spec PyProof.Rows L2
/-! ### kept_blocks -/
def dBlks (bs : List Blk) : PyData := .tuple (bs.map dBlk)
def BlksOk (tbs : List (Str × List Str)) (bs : List Blk) : Prop := 1 ≤ bs.length ∧ bs.length ≤ 6 ∧ (tbs.map (·.1) ++ bs.map (·.1)).Nodup ∧ ∀ b ∈ bs, BlkG b
def spKeptBlks (CS : Addr) : Sp := fun vs H Q _ => ∃ (p : Addr) (tbs : List (Str × List Str)) (S : Addr → Prop) (qq : Bool) (n : Nat) (x : V) (d : PyData) (es : List PyData) (bs : List Blk), vs = [.ref p, x] ∧ ShapeAt CS H p tbs ∧ GoodTs tbs ∧ Dt S qq H n x d ∧ RowD d es ∧ A2 BlkD es bs ∧ BlksOk tbs bs ∧
  ∀ a H', Kp [] H H' → Im H' 3 (.ref a) (dBlks bs) → Q (.ref a) H'
section
variable {P : Program} {w : World} {K : PySem.W.Frag} {mg : Str → Option Value} {base : Heap}
theorem ok_kept_blocks {CS : Addr} {tk : Tok} (B : Bi mg) (D : Dfn K mg "kept_blocks" s_kept_blocks ["shape", "blocks"]) (T : ShCls K mg CS) (M : mg "MOST_BLOCKS" = some (.int 6 tk)) (G_is_row : Has P w K mg base CX0 "is_row" ["thing"] 1 spIsRow) (G_is_block : Has P w K mg base CX0 "is_block" ["thing"] 3 spIsBlk) : Has P w K mg base CX0 "kept_blocks" ["shape", "blocks"] 4 (spKeptBlks CS) := by
  refine D.has sc_kept_blocks (fun vs H Q E h => ?_) (fun f cdv A outer s H vs Q E hr h => ?_)
  · obtain ⟨p, tbs, S, qq, n, x, d, es, bs, rfl, _⟩ := h; rfl
  · obtain ⟨p, tbs, S, qq, n, x, d, es, bs, rfl, SA, g, hx, rd, hb, ⟨b1, b6, bnd, bg⟩, k⟩ := h
    have hu := hu_of hr
    refine ⟨_, (pss_cons (ps_if (PW.pt (pw_or (pt_not (pt_val (pe_has G_is_row (hr.mono (by omega)) (pa_cons (pv 1) pa_nil)))) (pw_or1 (pt_not (pt_chain op_le op_le pe_int (pe_callB call_len (by rfl) B.len PySem.boot_len (pa_cons (pv 1) pa_nil)) (pe_glob (v := .int 6) rfl M ⟨_, rfl⟩))))))
  (pss_one ps_never)
  pss_nil)
  (pss_cons (ps_setLc (i := 2) (own := [("name", 6), ("fields", 7)]) (g := gTup K 2 (gCons (gName 6) (gCons (gName 7) gNil))) (by rfl) sc_kept_blocks.nd rfl rfl (sw_true rfl rfl rfl (by decide +kernel)) (pi_tup (pe_fld (pv 0) rfl)) (blkOk_by (own := [("name", 6), ("fields", 7)]) (N := N_kept_blocks) (sc := defScope s_kept_blocks) (by decide +kernel)) (fun _ _ _ _ _ => (pg_tup rfl (pgs_cons (pg_name (i := 6) sc_kept_blocks.nd rfl (by first | exact Or.inl rfl | exact Or.inr rfl)) (pgs_cons (pg_name (i := 7) sc_kept_blocks.nd rfl (by first | exact Or.inl rfl | exact Or.inr rfl)) pgs_nil)))) (fun _ _ _ _ _ => pts_nil) (fun _ _ _ _ _ => (pv 6)))
  (pss_cons (ps_set (i := 3) sc_kept_blocks.nd rfl (by first | exact Or.inl rfl | exact Or.inr rfl) (pe_lst pa_nil))
  (pss_cons (ps_for PassesOwn.never rfl (pi_or (pi_enum (by rfl) B.enumerate (pa_cons (pv 1) pa_nil)) (pi_enumT (by rfl) B.enumerate (pa_cons (pv 1) pa_nil))) (pg_tup rfl (pgs_cons (pg_name (i := 4) sc_kept_blocks.nd rfl (by first | exact Or.inl rfl | exact Or.inr rfl)) (pgs_cons (pg_name (i := 5) sc_kept_blocks.nd rfl (by first | exact Or.inl rfl | exact Or.inr rfl)) pgs_nil)))
  (pss_cons (ps_if (PW.pt (pw_or (pt_not (pt_val (pe_has G_is_block (hr.mono (by omega)) (pa_cons (pv 5) pa_nil)))) (pw_or1 (pt_cmpR op_in_seq (pe_ix (r := rIxT K) ix_tup (pv 5) pe_int (fun _ _ => rfl)) (pv 2) (by rfl)))))
  (pss_one ps_never)
  pss_nil)
  (pss_cons (ps_expr (pe_bm PySem.F.plainAttrs_list PySem.F.slot_list_append PySem.F.type_list_append mt_append (pv 2) (pa_cons (pe_ix (r := rIxT K) ix_tup (pv 5) pe_int (fun _ _ => rfl)) pa_nil)))
  (pss_one (ps_expr (pe_bm PySem.F.plainAttrs_list PySem.F.slot_list_append PySem.F.type_list_append mt_append (pv 3) (pa_cons (pe_tup (pa_cons (pe_ix (r := rIxT K) ix_tup (pv 5) pe_int (fun _ _ => rfl)) (pa_cons (pe_callTy (r := rTupO K) call_tuple_of (by rfl) B.tuple (by decide +kernel) (pa_cons (pe_ix (r := rIxT K) ix_tup (pv 5) pe_int (fun _ _ => rfl)) pa_nil)) (pa_cons (pe_callTy (r := rTupO K) call_tuple_of (by rfl) B.tuple (by decide +kernel) (pa_cons (pe_ix (r := rIxT K) ix_tup (pv 5) pe_int (fun _ _ => rfl)) pa_nil)) pa_nil)))) pa_nil)))))))
  (pss_one (ps_ret (pe_callTy (r := rTupO K) call_tuple_of (by rfl) B.tuple (by decide +kernel) (pa_cons (pv 3) pa_nil)))))))), ?_⟩
    have hsz : sizeLine = 16777216 := rfl
    obtain ⟨T0, hx, hT0⟩ : ∃ T0 : Addr → Prop, Dt T0 qq H n x d ∧ ∀ a, T0 a → H a ≠ none := ⟨_, hx.inH, fun a h => h.2⟩
    obtain ⟨m, p1, ys, rfl, rfl, ry, ly, hT1, ay⟩ := hx.rowI rd
    have lys : ys.length = bs.length := by rw [ay.len, hb.len]
    refine ⟨_, rfl, T0, qq, _, _, d, rfl, hx, fun H1 k1 => ⟨_, rfl, ?_⟩⟩
    rw [isRow_of rd]
    refine iteF ?_
    have ry1 := ry.keep k1
    refine ⟨_, rfl, _, _, rfl, ry1.len, _, _, rfl, rfl, _, rfl, iteTs (decide_eq_true (by omega)) ?_⟩
    refine ⟨_, _, rfl, rfl, _, rfl, iteFs (by rw [decide_eq_true (by omega)]; rfl) ?_⟩
    obtain ⟨sx, ta, xs, hps, hta, ix⟩ := SA.rows
    have el : xs.length = tbs.length := by rw [ix.len, List.length_map]
    have g5 := g.2.2.2
    refine ⟨_, rfl, p, CS, sx, _, .ref ta, rfl, k1.at_ _ _ hps (fun z => nomatch z), T.cl, T.nT, rfl, ta, rfl, ⟨_, .inl (.inl (k1.tp _ _ hta))⟩, fun N hN => ?_⟩
    refine lc_it (walk_tup (xs := xs)) (fun i H' => H' N = some (.lst (((tbs.take i).map (·.1)).map V.str)) ∧ Kp [] H H') ⟨upd_same, k1.snoc hN⟩ (fun i H2 _ h => .inl (.inl (h.2.tp _ _ hta))) ?_ ?_
    · rintro i u H2 H3 hi ⟨h2, k2⟩ ⟨rfl, hu1⟩
      obtain ⟨a', b', t, rfl, ht, e1, e2⟩ := tab_at ix k2 hu1
      refine ⟨a', _, rfl, SqT.of e1, rfl, _, _, rfl, _, _, rfl, rfl, rfl, _, rfl, _, h2, ?_, ?_, k2.late (k1.same.free hN)⟩
      · rw [List.length_map, List.length_map, List.length_take]
        omega
      · rw [take_snoc ht, List.map_append, List.map_append]; exact upd_same
    rintro H2 ⟨h2, k2⟩
    rw [el, List.take_length] at h2
    refine ⟨by show 0 ≤ sizeLine; decide, fun L hL => ?_⟩
    have k3 : Kp [] H (upd H2 L (.lst [])) := k2.snoc hL
    have hN3 : upd H2 L (.lst []) N = some (.lst ((tbs.map (·.1)).map V.str)) := (Kp.new (ms := []) hL).at_ _ _ h2 (fun z => nomatch z)
    have hL3 : upd H2 L (.lst []) L = some (.lst []) := upd_same
    have NL : N ≠ L := fun z => by rw [← z, h2] at hL; cases hL
    have N0 : H N = none := k1.same.free hN
    have L0 : H L = none := k2.same.free hL
    generalize upd H2 L (.lst []) = H3 at k3 hN3 hL3
    have ne : ∀ a, T0 a → a ∉ [N, L] := fun a ha z => by
      rcases List.mem_cons.mp z with rfl | z
      · exact hT0 _ ha N0
      · rw [List.mem_singleton.mp z] at ha; exact hT0 _ ha L0
    refine for_rowsE ?_ (ry.keep k3) (fun i σ H' => (∃ o4 o5, σ = [some (.ref p), some (.ref p1), some (.ref N), some (.ref L), o4, o5, none, none]) ∧ ∃ zs, H' N = some (.lst ((tbs.map (·.1) ++ (bs.take i).map (·.1)).map V.str)) ∧ H' L = some (.lst zs) ∧ ImAll H' 2 zs ((bs.take i).map dBlk) ∧ zs.length = i ∧ Kp [N, L] H3 H') ⟨⟨_, _, rfl⟩, [], by rw [hN3]; simp, hL3, .nil, rfl, Kp.refl _⟩ (fun i σ H' h => by
      obtain ⟨_, _, _, _, _, _, k⟩ := h
      exact ⟨_, k, ne _ hT1⟩) ?_ ?_
    · exact fun Q h => ⟨_, rfl, h⟩
    · rintro i u σ H4 T' ⟨⟨o4, o5, rfl⟩, zs, hN4, hL4, iz, lz, k4⟩ hu1 hT'
      obtain ⟨e, he, iu⟩ := ay.getV hu1
      have il : i < bs.length := by rw [← lys]; exact (List.getElem?_eq_some_iff.mp hu1).1
      obtain ⟨b, hbi⟩ : ∃ b, bs[i]? = some b := ⟨_, List.getElem?_eq_getElem il⟩
      obtain ⟨e', he', hbd⟩ := hb.get hbi
      rw [he] at he'
      cases he'
      have kT : Kp [] H4 (upd H4 T' (.tup [.int (i : Nat), u])) := Kp.new hT'
      have hTT : upd H4 T' (.tup [.int (i : Nat), u]) T' = some (.tup [.int (i : Nat), u]) := upd_same
      have iu5 : Dt T0 qq (upd H4 T' (.tup [.int (i : Nat), u])) _ u e := iu.keepS (fun a o ha ho => kT.at_ _ _ (k4.at_ _ _ (k3.at_ _ _ ho (fun z => nomatch z)) (ne a ha)) (fun z => nomatch z)) fun _ h => h
      generalize upd H4 T' (.tup [.int (i : Nat), u]) = H5 at kT hTT iu5
      refine ⟨T', _, rfl, SqT.of hTT, rfl, _, _, rfl, _, _, rfl, rfl, ?_⟩
      refine ⟨_, rfl, T0, qq, _, u, e, b, rfl, iu5, hbd, fun H6 k6 => ⟨_, rfl, iteF ?_⟩⟩
      have k46 := kT.trans k6
      have hN6 := k46.at_ _ _ hN4 (fun z => nomatch z)
      have hL6 := k46.at_ _ _ hL4 (fun z => nomatch z)
      obtain ⟨a, m2, v2, v3, dk, ds, rfl, _, ha, i2, i3, q2, q3, _, _⟩ := hbd.at (iu5.keep k6)
      have bgi := bg b (List.mem_of_getElem? hbi)
      have hT6 : SqT K H6 a [.str b.1, .ref v2, .ref v3] := SqT.of ha
      have nin : b.1 ∉ tbs.map (·.1) ++ (bs.take i).map (·.1) := fun z => by
        have e1 : (bs.map (·.1))[i]? = some b.1 := by rw [List.getElem?_map, hbi]; rfl
        obtain ⟨_, n2, n3⟩ := List.nodup_append.mp bnd
        rcases List.mem_append.mp z with z | z
        · exact n3 _ z _ (List.mem_of_getElem? e1) rfl
        · rw [List.map_take] at z
          exact notin_take n2 e1 z
      refine ⟨_, rfl, a, _, 0, .str b.1, rfl, rfl, hT6, rfl, _, rfl, N, _, rfl, .inl (SqL.of hN6), rfl, flat_strsQ _, _, rfl, ?_⟩
      rw [inV_strsQ, decide_eq_false nin]
      refine iteF ?_
      have lnm : (tbs.map (·.1) ++ (bs.take i).map (·.1)).length ≤ 20 := by rw [List.length_append, List.length_map, List.length_map, List.length_take]; omega
      refine ⟨_, rfl, .inl ⟨rfl, _, SqL.of hN6⟩, _, rfl, a, _, 0, .str b.1, rfl, rfl, hT6, rfl, N, _, _, rfl, rfl, hN6, by rw [List.length_map]; omega, ?_⟩
      have kN : Kp [N] H6 (upd H6 N (.lst ((tbs.map (·.1) ++ (bs.take i).map (·.1)).map V.str ++ [.str b.1]))) := Kp.updL hN6 (by simp)
      have hNN : upd H6 N (.lst ((tbs.map (·.1) ++ (bs.take i).map (·.1)).map V.str ++ [.str b.1])) N = some (.lst ((tbs.map (·.1) ++ (bs.take (i + 1)).map (·.1)).map V.str)) := by
        rw [upd_same, take_snoc hbi, List.map_append, List.map_append, List.map_append, List.map_append, List.append_assoc]; rfl
      generalize upd H6 N (.lst ((tbs.map (·.1) ++ (bs.take i).map (·.1)).map V.str ++ [.str b.1])) = H7 at kN hNN
      have hL7 := kN.at_ _ _ hL6 (by simpa using Ne.symm NL)
      have hT7 : SqT K H7 a [.str b.1, .ref v2, .ref v3] := SqT.of (kN.tp _ _ ha)
      have neN : ∀ x o, T0 x → H6 x = some o → H7 x = some o := fun x o hx ho => kN.at_ _ _ ho fun z => ne x hx (by rw [List.mem_singleton.mp z]; exact List.mem_cons_self)
      obtain ⟨_, v2', ws2, e2, _, r2, l2, _, a2⟩ := (i2.keepS neN fun _ h => h).rowI q2
      obtain ⟨_, v3', ws3, e3, _, r3, l3, t3, a3⟩ := (i3.keepS neN fun _ h => h).rowI q3
      cases e2
      cases e3
      have e := dtAll_strs_inv a2; subst e
      have e := dtAll_strs_inv a3; subst e
      have lnm2 : ∀ w ∈ b.2.1, w.length ≤ 1000000 := fun w hw => by have := (bgi.nms w (List.mem_append_left _ hw)).2.1; omega
      have lnm3 : ∀ w ∈ b.2.2, w.length ≤ 1000000 := fun w hw => by have := (bgi.nms w (List.mem_append_right _ hw)).2.1; omega
      refine ⟨_, rfl, .inl ⟨rfl, _, SqL.of hL7⟩, _, rfl, a, _, 0, .str b.1, rfl, rfl, hT7, rfl, _, rfl, a, _, 1, .ref v2, rfl, rfl, hT7, rfl, ?_⟩
      dsimp only [tNil]
      refine tup_row (k := 0) r2 l2 (dtAll_strs lnm2) fun t2 H8 k8 it2 => ?_
      have hT8 : SqT K H8 a [.str b.1, .ref v2, .ref v3] := SqT.of (k8.tp _ _ (kN.tp _ _ ha))
      refine ⟨_, rfl, a, _, 2, .ref v3, rfl, rfl, hT8, rfl, ?_⟩
      dsimp only [tNil]
      refine tup_row (k := 0) (r3.keep k8) l3 (dtAll_strs lnm3) fun t3 H9 k9 it3 => ?_
      refine ⟨by show 3 ≤ sizeLine; decide, fun e5 he5 => ?_⟩
      have kE : Kp [] H9 (upd H9 e5 (.tup [.str b.1, .ref t2, .ref t3])) := Kp.new he5
      have iE : Im (upd H9 e5 (.tup [.str b.1, .ref t2, .ref t3])) 2 (.ref e5) (dBlk b) := .tup upd_same ⟨by simp, ⟨_, upd_same⟩⟩ (.cons (.str _ (by have := bgi.nm.2.1; omega)) (.cons ((it2.kp k9).kp kE) (.cons (it3.kp kE) .nil)))
      generalize upd H9 e5 (.tup [.str b.1, .ref t2, .ref t3]) = HA at kE iE
      have k7A := (k8.trans k9).trans kE
      have hLA := k7A.at_ _ _ hL7 (fun z => nomatch z)
      have hNA := k7A.at_ _ _ hNN (fun z => nomatch z)
      refine ⟨L, _, _, rfl, rfl, hLA, by rw [lz]; exact small1000 (by omega), ?_⟩
      have kL : Kp [L] HA (upd HA L (.lst (zs ++ [.ref e5]))) := Kp.updL hLA (by simp)
      have k4A : Kp [N] H4 HA := (k46.zero.trans kN).trans k7A.zero
      refine ⟨⟨_, _, rfl⟩, zs ++ [.ref e5], kL.at_ _ _ hNA (by simpa using NL), upd_same, ?_, by simp [lz], k4.trans ((k4A.mono (by simp)).trans (kL.mono (by simp)))⟩
      rw [take_snoc hbi, List.map_append]
      exact ((iz.kp k4A).kp kL).append (.cons (iE.kp kL) .nil)
    · rintro σ H4 ⟨⟨o4, o5, rfl⟩, zs, hN4, hL4, iz, lz, k4⟩
      rw [lys, List.take_length] at iz
      refine ⟨_, rfl, ?_⟩
      dsimp only [tNil]
      refine ⟨L, zs, rfl, .inl ⟨SqL.of hL4, fun l hl => k l _ ?_ (im_tup hl iz (by rw [lz, lys]; omega))⟩⟩
      refine (k3.viaM k4 fun x hx => .inr ?_).snoc hl
      rcases List.mem_cons.mp hx with rfl | hx
      · exact N0
      · rw [List.mem_singleton.mp hx]; exact L0
end
end Fm

namespace Fm
open PySem PySem.Spec PyProof.Rows L2
/-! ### Checker.__init__ -/
theorem dc_it {J : It} {n : Nat} {G : Hp → Prop} {Y : Nat → Hp → V → Hp → Prop} (w : Walk J n G Y) {g : TG} {tt : TT} {tk tv : TE} {vs : List Nat} {σ : L2.St} {H1 : Hp} {D : Addr} {Qd : Hp → Prop} (Pv : Nat → Hp → Prop) (h0 : Pv 0 (upd H1 D (.dK []))) (hG : ∀ i H, i ≤ n → Pv i H → G H)
    (hs : ∀ i x H H', i < n → Pv i H → Y i H x H' → g x (wipe σ vs) H' fun σ2 H2 => wipe σ2 vs = wipe σ vs ∧ tt σ2 H2 fun b H3 =>
      if b = true then tk σ2 H3 fun y H4 => tv σ2 H4 fun z H5 => ∃ kvs k, y = kV k ∧ H5 D = some (.dK kvs) ∧ kvs.length < sizeLine ∧ Pv (i + 1) (upd H5 D (.dK (putK kvs k z))) else Pv (i + 1) H3) (hd : ∀ H, Pv n H → Qd H) :
    ∃ W : Nat → Nat → Hp → Prop, (∃ m, W 0 m (upd H1 D (.dK []))) ∧ ∀ i m H, W i m H →
      (J.stop i H ∧ Qd H) ∨ (J.go i H ∧ ∃ Nx : Hp → Prop, (∀ H', Nx H' → ∃ m', m' < m ∧ W (i + 1) m' H') ∧ ∀ x H', J.yld i H x H' → g x (wipe σ vs) H' fun σ2 H2 => wipe σ2 vs = wipe σ vs ∧ tt σ2 H2 fun b H3 =>
        if b = true then tk σ2 H3 fun y H4 => tv σ2 H4 fun z H5 => ∃ kvs k, y = kV k ∧ H5 D = some (.dK kvs) ∧ kvs.length < sizeLine ∧ Nx (upd H5 D (.dK (putK kvs k z))) else Nx H3) := by
  refine ⟨fun i m H => m = n - i ∧ i ≤ n ∧ Pv i H, ⟨n, by simp, Nat.zero_le _, h0⟩, ?_⟩
  rintro i m H ⟨rfl, hi, p⟩
  have q := hG i H hi p
  by_cases hlt : i < n
  · refine .inr ⟨w.goes i H hlt q, Pv (i + 1), fun H' p' => ⟨n - (i + 1), by omega, rfl, hlt, p'⟩, fun x H' y => hs i x H H' hlt p (w.yields i H x H' hlt q y)⟩
  · have e : i = n := by omega
    subst e
    exact .inl ⟨w.stops H q, hd H p⟩
theorem lkA_none {α : Type} {s : Str} : ∀ {l : List (Str × α)}, s ∉ l.map (·.1) → lkA l s = none
  | [], _ => rfl
  | p :: l, h => by
    rw [lkA_cons, if_neg fun e => h (by rw [← e]; exact List.mem_cons_self)]
    exact lkA_none fun z => h (List.mem_cons_of_mem _ z)
theorem KA.keys {α : Type} {R : V → α → Prop} : ∀ {kvs : List (Key × V)} {l : List (Str × α)}, KA R kvs l → kvs.map (·.1) = (l.map (·.1)).map Sum.inr
  | _, _, .nil => rfl
  | _, _, .cons _ h => by rw [List.map_cons, List.map_cons, List.map_cons, h.keys]
theorem mergeK_app : ∀ {kvs acc : List (Key × V)}, ((acc ++ kvs).map (·.1)).Nodup → mergeK acc kvs = acc ++ kvs
  | [], acc, _ => by rw [List.append_nil]; rfl
  | kv :: kvs, acc, h => by
    have e : mergeK acc (kv :: kvs) = mergeK (putK acc kv.1 kv.2) kvs := rfl
    have nin : kv.1 ∉ acc.map (·.1) := fun z => by
      rw [List.map_append] at h
      exact (List.nodup_append.mp h).2.2 _ z _ (by simp) rfl
    have ha : putK acc kv.1 kv.2 = acc ++ [kv] := by
      unfold putK
      rw [if_neg]
      intro z
      obtain ⟨x, hx, ex⟩ := List.any_eq_true.mp z
      exact nin (List.mem_map.mpr ⟨x, hx, of_decide_eq_true ex⟩)
    rw [e, ha, mergeK_app (by rw [List.append_assoc]; exact h), List.append_assoc]; rfl
theorem tabs_paired {K : PySem.W.Frag} {H : Hp} : ∀ {tbs : List (Str × List Str)} {xs : List V}, ImAll H 2 xs (tbs.map dTab) → ∃ (ps : List Addr) (kvs : List (Key × V)), xs = ps.map V.ref ∧ Paired (fun p kv => SqT K H p [kV kv.1, kv.2]) ps kvs ∧ KA (TabV H) kvs tbs
  | [], _, h => by cases h; exact ⟨[], [], rfl, .nil, .nil⟩
  | t :: tbs, _, h => by
    obtain ⟨v, vs, rfl, h1, h2⟩ := DtAll.consI h
    obtain ⟨ps, kvs, rfl, h3, h4⟩ := tabs_paired (K := K) h2
    obtain ⟨a, b, rfl, ha, hb⟩ := Im.tab (n := 0) h1
    obtain ⟨b', m, ws, e, _, hb', aw⟩ := Dt.tupI hb
    cases e
    have e := dtAll_strs_inv aw; subst e
    exact ⟨a :: ps, (.inr t.1, .ref b) :: kvs, rfl, .cons (SqT.of ha) h3, .cons ⟨b, rfl, hb'⟩ h4⟩
def spCkI (CC CS : Addr) : Sp := fun vs H Q _ => ∃ (p dx ps ta : Addr) (tbs : List (Str × List Str)) (bs : List Blk), vs = [.ref p, .ref ps, .ref ta] ∧ H p = some (.ins CC dx []) ∧ ShapeAt CS H ps tbs ∧ GoodTs tbs ∧ Im H 3 (.ref ta) (dBlks bs) ∧ BlksOk tbs bs ∧
  ∀ H' dt db dp ln, Kp [p] H H' → CkAt CC H' p ⟨tbs, bs⟩ ⟨[], [], 0⟩ dt db dp ln [] → H dt = none → H db = none → H dp = none → H ln = none → Q .non H'
section
variable {P : Program} {w : World} {K : PySem.W.Frag} {mg : Str → Option Value} {base : Heap}
theorem ok_checker_init {f CC CS : Addr} {fd : FuncData} (B : Bi mg) (F : Fun K "__init__" "Checker.__init__" s_Checker_init f fd) (T : ShCls K mg CS) (cl : Cls K CC) (na : NoAttr K CC "tables") (nb : NoAttr K CC "blocks") (np : NoAttr K CC "putters") (nn : NoAttr K CC "named") (ns : NoAttr K CC "seen") : FnOk P w K mg base CX0 1 f fd ["self", "shape", "blocks"] (spCkI CC CS) := by
  refine F.ok sc_Checker_init (fun vs H Q E h => ?_) (fun cdv A outer s H vs Q E hr h => ?_)
  · obtain ⟨p, dx, ps, ta, tbs, bs, rfl, _⟩ := h; rfl
  · obtain ⟨p, dx, ps, ta, tbs, bs, rfl, hp, SA, g, ib, ok, k⟩ := h
    refine ⟨_, (pss_cons (ps_fld (pv 0) (pe_callTy (call_dictP rfl) (by rfl) B.dict (by decide +kernel) (pa_cons (pe_callTy call_list_of (by rfl) B.list (by decide +kernel) (pa_cons (pe_fld (pv 1) rfl) pa_nil)) pa_nil)) rfl)
  (pss_cons (ps_fld (pv 0) (pe_dc (own := [("name", 3), ("keys", 4), ("sums", 5)]) (g := gTup K 3 (gCons (gName 3) (gCons (gName 4) (gCons (gName 5) gNil)))) (by rfl) sc_Checker_init.nd (pi_tup (pv 2)) (blkOk_by (own := [("name", 3), ("keys", 4), ("sums", 5)]) (N := N_Checker_init) (sc := defScope s_Checker_init) (by decide +kernel)) (fun _ _ _ _ _ => (pg_tup rfl (pgs_cons (pg_name (i := 3) sc_Checker_init.nd rfl (by first | exact Or.inl rfl | exact Or.inr rfl)) (pgs_cons (pg_name (i := 4) sc_Checker_init.nd rfl (by first | exact Or.inl rfl | exact Or.inr rfl)) (pgs_cons (pg_name (i := 5) sc_Checker_init.nd rfl (by first | exact Or.inl rfl | exact Or.inr rfl)) pgs_nil))))) (fun _ _ _ _ _ => pts_nil) (fun _ _ _ _ _ => (pv 3)) (fun _ _ _ _ _ => (pe_tup (pa_cons (pv 4) (pa_cons (pv 5) pa_nil))))) rfl)
  (pss_cons (ps_fld (pv 0) pe_dnewK rfl)
  (pss_cons (ps_fld (pv 0) (pe_lst pa_nil) rfl)
  (pss_one (ps_fld (pv 0) pe_int rfl)))))), ?_⟩
    have hsz : sizeLine = 16777216 := rfl
    obtain ⟨sx, tb, xs, hps, hta, ix⟩ := SA.rows
    have el : xs.length = tbs.length := by rw [ix.len, List.length_map]
    have g5 := g.2.2.2
    refine ⟨_, rfl, ps, CS, sx, _, .ref tb, rfl, hps, T.cl, T.nT, rfl, tb, xs, rfl, .inr (SqT.of hta), fun l hl => ?_⟩
    have k1 : Kp [] H (upd H l (.lst xs)) := Kp.new hl
    have hll : upd H l (.lst xs) l = some (.lst xs) := upd_same
    generalize upd H l (.lst xs) = H1 at k1 hll
    obtain ⟨pss, kt, rfl, hpr, KT⟩ := tabs_paired (K := K) (ix.kp k1)
    refine ⟨l, pss, kt, rfl, SqL.of hll, hpr, fun dt hdt => ?_⟩
    have ekt : mergeK [] kt = kt := mergeK_app (acc := []) (by
      rw [List.nil_append, KT.keys]
      exact List.Pairwise.map _ (fun a b n e => n (Sum.inr.inj e)) g.2.1)
    rw [ekt]
    have k2 : Kp [] H (upd H1 dt (.dK kt)) := k1.snoc hdt
    have hdt2 : upd H1 dt (.dK kt) dt = some (.dK kt) := upd_same
    have KT2 := KT.imp fun _ _ => TabV.kp (Kp.new (ms := []) (o := .dK kt) hdt)
    have dt0 : H dt = none := k1.same.free hdt
    generalize upd H1 dt (.dK kt) = H2 at k2 hdt2 KT2
    have hp2 := k2.at_ _ _ hp (fun z => nomatch z)
    refine ⟨_, rfl, p, CC, dx, _, rfl, hp2, cl, na, by show 0 < 1000; decide, ?_⟩
    have k3 : Kp [p] H (upd H2 p (.ins CC dx [("tables", .ref dt)])) := k2.zero.trans (Kp.set hp2 (fun _ z => by cases z) (by simp))
    have hp3 : upd H2 p (.ins CC dx [("tables", .ref dt)]) p = some (.ins CC dx [("tables", .ref dt)]) := upd_same
    have k23 : Kp [p] H2 (upd H2 p (.ins CC dx [("tables", .ref dt)])) := Kp.set hp2 (fun _ z => by cases z) (by simp)
    have dtp : dt ≠ p := fun z => by rw [z, hp] at dt0; cases dt0
    have hdt3 := k23.at_ _ _ hdt2 (by simpa using dtp)
    have KT3 := KT2.imp fun _ _ => TabV.kp k23
    show tSeq _ _ _ _ (upd H2 p (.ins CC dx [("tables", .ref dt)]))
    generalize upd H2 p (.ins CC dx [("tables", .ref dt)]) = H3 at k3 hp3 k23 hdt3 KT3
    obtain ⟨ta', m, ys, e, _, hta3, ay⟩ := Dt.tupI (ib.kp k3)
    cases e
    have lys : ys.length = bs.length := by rw [ay.len, List.length_map]
    obtain ⟨b1, b6, bnd, bg⟩ := ok
    have bnd2 := (List.nodup_append.mp bnd).2.1
    refine ⟨_, rfl, ta, rfl, ⟨_, SqT.of hta3⟩, fun db hdb => ?_⟩
    have dbp : db ≠ p := fun z => by rw [z, hp3] at hdb; cases hdb
    have dbdt : db ≠ dt := fun z => by rw [z, hdt3] at hdb; cases hdb
    refine dc_it (walk_tup (xs := ys)) (fun i H' => ∃ kb, H' db = some (.dK kb) ∧ KA (BlkV H') kb (bs.take i) ∧ Kp [] H3 H') ⟨[], upd_same, .nil, Kp.new hdb⟩ (fun i H' _ h => by
      obtain ⟨_, _, _, k⟩ := h
      exact SqT.of (k.tp _ _ hta3)) ?_ ?_
    · rintro i u H4 H5 hi ⟨kb, hkb, KB, k4⟩ ⟨rfl, hu1⟩
      obtain ⟨e, he, iu⟩ := ay.getV hu1
      rw [List.getElem?_map] at he
      cases hbi : bs[i]? with
      | none => rw [hbi] at he; cases he
      | some b =>
      rw [hbi] at he
      cases he
      obtain ⟨a, m2, zs, rfl, _, ha, g0⟩ := Dt.tupI iu
      obtain ⟨v1, w1, rfl, h1, g1⟩ := g0.consI
      obtain ⟨v2, w2, rfl, h2, g2⟩ := g1.consI
      obtain ⟨v3, w3, rfl, h3, g3⟩ := g2.consI
      have e := g3.nilI
      subst e
      have e := h1.strI.1; subst e
      obtain ⟨a2, _, us2, rfl, _, ha2, g4⟩ := Dt.tupI h2
      obtain ⟨a3, _, us3, rfl, _, ha3, g5⟩ := Dt.tupI h3
      have e := dtAll_strs_inv g4; subst e
      have e := dtAll_strs_inv g5; subst e
      have nin : b.1 ∉ (bs.take i).map (·.1) := by
        rw [List.map_take]
        exact notin_take bnd2 (by rw [List.getElem?_map, hbi]; rfl)
      have lkb : kb.length ≤ 6 := by
        have := KB.len
        rw [List.length_take] at this
        omega
      refine ⟨a, _, rfl, SqT.of (k4.tp _ _ ha), rfl, _, _, rfl, _, _, rfl, _, _, rfl, rfl, rfl, ?_⟩
      refine ⟨_, rfl, _, rfl, _, rfl, by show 2 ≤ sizeLine; decide, fun e5 he5 => ?_⟩
      have k5 : Kp [] H5 (upd H5 e5 (.tup [.ref a2, .ref a3])) := Kp.new he5
      have h55 : upd H5 e5 (.tup [.ref a2, .ref a3]) e5 = some (.tup [.ref a2, .ref a3]) := upd_same
      generalize upd H5 e5 (.tup [.ref a2, .ref a3]) = H6 at k5 h55
      have hkb6 := k5.at_ _ _ hkb (fun z => nomatch z)
      refine ⟨kb, .inr b.1, rfl, hkb6, small1000 (by omega), ?_⟩
      rw [putK_new _ (KB.none_ (lkA_none nin))]
      have kD : Kp [db] H6 (upd H6 db (.dK (kb ++ [(.inr b.1, .ref e5)]))) := Kp.set hkb6 (fun _ z => by cases z) (by simp)
      refine ⟨_, upd_same, ?_, (k4.trans k5).late hdb⟩
      rw [take_snoc hbi]
      exact (KB.imp fun _ _ h => BlkV.kp kD (BlkV.kp k5 h)).snoc ⟨e5, a2, a3, rfl, kD.tp _ _ h55, kD.tp _ _ ((k4.trans k5).tp _ _ ha2), kD.tp _ _ ((k4.trans k5).tp _ _ ha3)⟩
    rintro H4 ⟨kb, hkb, KB, k4⟩
    rw [lys, List.take_length] at KB
    have hp4 := k4.at_ _ _ hp3 (fun z => nomatch z)
    refine ⟨_, rfl, p, CC, dx, _, rfl, hp4, cl, nb, by show 1 < 1000; decide, ?_⟩
    have setp : ∀ {G : Hp} {fs fs' : List (Str × V)}, G p = some (.ins CC dx fs) → Kp [p] G (upd G p (.ins CC dx fs')) := fun h => Kp.set h (fun _ z => by cases z) (by simp)
    have db0 : H db = none := by
      cases e : H db with
      | none => rfl
      | some o => rw [k3.at_ _ _ e (by simpa using dbp)] at hdb; cases hdb
    have kA := setp (fs' := [("tables", .ref dt), ("blocks", .ref db)]) hp4
    have hpA : upd H4 p (.ins CC dx [("tables", .ref dt), ("blocks", .ref db)]) p = some (.ins CC dx [("tables", .ref dt), ("blocks", .ref db)]) := upd_same
    show tSeq _ _ _ _ (upd H4 p (.ins CC dx [("tables", .ref dt), ("blocks", .ref db)]))
    generalize upd H4 p (.ins CC dx [("tables", .ref dt), ("blocks", .ref db)]) = H5 at kA hpA
    have k0A : Kp [p] H H5 := (k3.trans k4.zero).trans kA
    have hdtA := kA.at_ _ _ (k4.at_ _ _ hdt3 (fun z => nomatch z)) (by simpa using dtp)
    have hdbA := kA.at_ _ _ hkb (by simpa using dbp)
    have KTA := KT3.imp fun _ _ h => TabV.kp kA (TabV.kp k4 h)
    have KBA := KB.imp fun _ _ => BlkV.kp kA
    refine fun dp hdp => ⟨_, rfl, p, CC, dx, _, rfl, (Kp.new (ms := []) hdp).at_ _ _ hpA (fun z => nomatch z), cl, np, by show 2 < 1000; decide, ?_⟩
    have kn : Kp [] H5 (upd H5 dp (.dK [])) := Kp.new hdp
    have hpn := kn.at_ _ _ hpA (fun z => nomatch z)
    have hdpn : upd H5 dp (.dK []) dp = some (.dK []) := upd_same
    have dpp : dp ≠ p := fun z => by rw [z, hpA] at hdp; cases hdp
    have dpt : dp ≠ dt := fun z => by rw [z, hdtA] at hdp; cases hdp
    have dpb : dp ≠ db := fun z => by rw [z, hdbA] at hdp; cases hdp
    have fr : ∀ {G : Hp} {x : Addr}, Kp [p] H G → G x = none → x ≠ p → H x = none := fun {G x} k h n => by
      cases e : H x with
      | none => rfl
      | some o => rw [k.at_ _ _ e (by simpa using n)] at h; cases h
    have dp0 : H dp = none := fr k0A hdp dpp
    generalize upd H5 dp (.dK []) = H6 at kn hpn hdpn
    have kB := setp (fs' := [("tables", .ref dt), ("blocks", .ref db), ("putters", .ref dp)]) hpn
    have hpB : upd H6 p (.ins CC dx [("tables", .ref dt), ("blocks", .ref db), ("putters", .ref dp)]) p = some (.ins CC dx [("tables", .ref dt), ("blocks", .ref db), ("putters", .ref dp)]) := upd_same
    show tSeq _ _ _ _ (upd H6 p (.ins CC dx [("tables", .ref dt), ("blocks", .ref db), ("putters", .ref dp)]))
    generalize upd H6 p (.ins CC dx [("tables", .ref dt), ("blocks", .ref db), ("putters", .ref dp)]) = H7 at kB hpB
    have kAB : Kp [p] H5 H7 := kn.zero.trans kB
    have hdpB := kB.at_ _ _ hdpn (by simpa using dpp)
    refine ⟨by show 0 ≤ sizeLine; decide, fun ln hln => ⟨_, rfl, p, CC, dx, _, rfl, (Kp.new (ms := []) hln).at_ _ _ hpB (fun z => nomatch z), cl, nn, by show 3 < 1000; decide, ?_⟩⟩
    have kn2 : Kp [] H7 (upd H7 ln (.lst [])) := Kp.new hln
    have hpn2 := kn2.at_ _ _ hpB (fun z => nomatch z)
    have hlnn : upd H7 ln (.lst []) ln = some (.lst []) := upd_same
    have lnp : ln ≠ p := fun z => by rw [z, hpB] at hln; cases hln
    have ln0 : H ln = none := fr (k0A.trans kAB) hln lnp
    generalize upd H7 ln (.lst []) = H8 at kn2 hpn2 hlnn
    have kC := setp (fs' := [("tables", .ref dt), ("blocks", .ref db), ("putters", .ref dp), ("named", .ref ln)]) hpn2
    have hpC : upd H8 p (.ins CC dx [("tables", .ref dt), ("blocks", .ref db), ("putters", .ref dp), ("named", .ref ln)]) p = some (.ins CC dx [("tables", .ref dt), ("blocks", .ref db), ("putters", .ref dp), ("named", .ref ln)]) := upd_same
    dsimp only
    rw [show putF "named" (V.ref ln) ([("tables", .ref dt), ("blocks", .ref db), ("putters", .ref dp)] : List (Str × V)) = ([("tables", .ref dt), ("blocks", .ref db), ("putters", .ref dp), ("named", .ref ln)] : List (Str × V)) from rfl]
    show sFld _ _ _ _ _ _ (upd H8 p (.ins CC dx [("tables", .ref dt), ("blocks", .ref db), ("putters", .ref dp), ("named", .ref ln)]))
    generalize upd H8 p (.ins CC dx [("tables", .ref dt), ("blocks", .ref db), ("putters", .ref dp), ("named", .ref ln)]) = H9 at kC hpC
    refine ⟨_, rfl, p, CC, dx, _, rfl, hpC, cl, ns, by show 4 < 1000; decide, ?_⟩
    have kD := setp (fs' := [("tables", .ref dt), ("blocks", .ref db), ("putters", .ref dp), ("named", .ref ln), ("seen", .int 0)]) hpC
    have k5D : Kp [p] H5 (upd H9 p (.ins CC dx [("tables", .ref dt), ("blocks", .ref db), ("putters", .ref dp), ("named", .ref ln), ("seen", .int 0)])) := kAB.trans (kn2.zero.trans (kC.trans kD))
    have k7D : Kp [p] H7 (upd H9 p (.ins CC dx [("tables", .ref dt), ("blocks", .ref db), ("putters", .ref dp), ("named", .ref ln), ("seen", .int 0)])) := kn2.zero.trans (kC.trans kD)
    refine k _ dt db dp ln (k0A.trans k5D) ⟨⟨dx, upd_same⟩, ⟨kt, k5D.at_ _ _ hdtA (by simpa using dtp), KTA.imp fun _ _ => TabV.kp k5D⟩, ⟨kb, k5D.at_ _ _ hdbA (by simpa using dbp), KBA.imp fun _ _ => BlkV.kp k5D⟩, ⟨[], k7D.at_ _ _ hdpB (by simpa using dpp), .nil⟩, kD.at_ _ _ (kC.at_ _ _ hlnn (by simpa using lnp)) (by simpa using lnp), List.nodup_nil, List.nodup_nil, (fun z => nomatch z), dpt, dpb⟩ dt0 db0 dp0 ln0
end
end Fm

namespace Fm
open PySem PySem.Spec PyProof.Rows L2
/-! ### Program.__init__ -/
inductive CkT (E : CEnv) (n : Nat) : Nat → Cs → List Stm → Cs → Prop
  | nil {i : Nat} {cs : Cs} : CkT E n i cs [] cs
  | cons {i : Nat} {cs cs1 cs2 : Cs} {s : Stm} {ss : List Stm} : Ck E i n 1 [] cs s cs1 → CkT E n (i + 1) cs1 ss cs2 → CkT E n i cs (s :: ss) cs2
def ProgOk (n : Nat) (tbs : List (Str × List Str)) (bs : List Blk) (body : List Stm) : Prop := BlksOk tbs bs ∧ 1 ≤ body.length ∧ body.length ≤ 12 ∧ ∃ cs, CkT ⟨tbs, bs⟩ n 0 ⟨[], [], 0⟩ body cs
def PrAt (CP CS : Addr) (H : Hp) (p ps : Addr) (n : Nat) (tbs : List (Str × List Str)) (bs : List Blk) (body : List Stm) : Prop := ∃ dx vb vy, H p = some (.ins CP dx [("shape", .ref ps), ("blocks", vb), ("body", vy)]) ∧ ShapeAt CS H ps tbs ∧ Im H 3 vb (dBlks bs) ∧ Im H (2 * n + 7) vy (.tuple (body.map dSt))
def spProgI (CP CS : Addr) (n0 : Nat) : Sp := fun vs H Q _ => ∃ (p dx ps : Addr) (xb xy : V) (tbs : List (Str × List Str)) (bs : List Blk) (body : List Stm) (S : Addr → Prop) (qq : Bool) (n : Nat) (db dy : PyData) (es es' : List PyData), vs = [.ref p, .ref ps, xb, xy] ∧ H p = some (.ins CP dx []) ∧ ShapeAt CS H ps tbs ∧ GoodTs tbs ∧
  Dt S qq H n xb db ∧ RowD db es ∧ A2 BlkD es bs ∧ Dt S qq H n xy dy ∧ RowD dy es' ∧ StDs es' body ∧ ProgOk n0 tbs bs body ∧ ¬ S p ∧ ∀ H', Kp [p] H H' → PrAt CP CS H' p ps n0 tbs bs body → Q .non H'
theorem A2.mem {α β : Type} {R : α → β → Prop} {as : List α} {bs : List β} (h : A2 R as bs) {b : β} (hb : b ∈ bs) : ∃ a, R a b := by
  obtain ⟨i, hi⟩ := List.mem_iff_getElem?.mp hb
  obtain ⟨a, _, r⟩ := h.get hi
  exact ⟨a, r⟩
theorem lkA_mem {α : Type} {l : List (Str × α)} {s : Str} {a : α} (h : lkA l s = some a) : (s, a) ∈ l := by
  unfold lkA at h
  obtain ⟨p, hp, rfl⟩ := Option.map_eq_some_iff.mp h
  have h0 := List.find?_some hp
  have : p.1 = s := of_decide_eq_true h0
  rw [← this]
  exact List.mem_of_find?_eq_some hp
theorem blks_bound {tbs : List (Str × List Str)} {bs : List Blk} (h : BlksOk tbs bs) : CEnvB ⟨tbs, bs⟩ := fun b ks ss e => by
  have := h.2.2.2 _ (lkA_mem (l := bs) e)
  have h1 := this.k3
  have h2 := this.s3
  exact ⟨Nat.le_trans h1 (by decide), Nat.le_trans h2 (by decide)⟩
theorem ckt_dp {E : CEnv} (hE : CEnvB E) {n : Nat} : ∀ {ss : List Stm} {i : Nat} {cs cs' : Cs}, CkT E n i cs ss cs' → ∀ s ∈ ss, Dp n s
  | [], _, _, _, _, s, h => nomatch h
  | s0 :: ss, _, _, _, h, s, hs => by
    cases h with
    | cons a b =>
      rcases List.mem_cons.mp hs with rfl | hs
      · exact ck_dp hE a
      · exact ckt_dp hE b s hs
section
variable {P : Program} {w : World} {K : PySem.W.Frag} {mg : Str → Option Value} {base : Heap}
theorem ok_program_init {f fC fF CP CC CS : Addr} {fd fdC fdF : FuncData} {tk : Tok} (B : Bi mg) (F : Fun K "__init__" "Program.__init__" s_Program_init f fd) (T : ShCls K mg CS) (X : InsX K CS) (cl : Cls K CP) (na : NoAttr K CP "shape") (nb : NoAttr K CP "blocks") (ny : NoAttr K CP "body") (clC : Cls K CC)
    (MT : mg "MOST_TOPS" = some (.int 12 tk)) (mgCC : mg "Checker" = some (.ref CC)) (MC : Mk K CC fC) (GC : FnOk P w K mg base CX0 1 fC fdC ["self", "shape", "blocks"] (spCkI CC CS)) (bC : Binds K fdC ["self", "shape", "blocks"] [])
    (mF : Meth K CC "first_wrong" fF) (n : Nat) (GF : FnOk P w K mg base CX0 (n + 7) fF fdF ["self", "statement", "path", "around"] (spFirst CC n)) (bF : Binds K fdF ["self", "statement", "path", "around"] [])
    (G_is_row : Has P w K mg base CX0 "is_row" ["thing"] 1 spIsRow) (G_kept_blocks : Has P w K mg base CX0 "kept_blocks" ["shape", "blocks"] 4 (spKeptBlks CS)) (G_kept_statement : Has P w K mg base CX0 "kept_statement" ["statement"] (n + 2) (spKept n)) : FnOk P w K mg base CX0 (n + 8) f fd ["self", "shape", "blocks", "body"] (spProgI CP CS n) := by
  refine F.ok sc_Program_init (fun vs H Q E h => ?_) (fun cdv A outer s H vs Q E hr h => ?_)
  · obtain ⟨p, dx, ps, xb, xy, tbs, bs, body, S, qq, nn, db, dy, es, es', rfl, _⟩ := h; rfl
  · obtain ⟨p, dx, ps, xb, xy, tbs, bs, body, S, qq, nn, db, dy, es, es', rfl, hp, SA, g, hb, rb, ab, hy, ry, sy, ⟨bok, y1, y12, cs', hck⟩, hSp, k⟩ := h
    have hu := hu_of hr
    have hr1 := hr.mono (show 1 ≤ n + 7 by omega)
    have hr2 := hr.mono (show n + 2 ≤ n + 7 by omega)
    have hr4 := hr.mono (show 4 ≤ n + 7 by omega)
    refine ⟨_, (pss_cons (ps_if (pt_not (pt_val (pe_callB call_isi (by rfl) B.isinstance (by decide +kernel) (pa_cons (pv 1) (pa_cons (pe_glob (v := .ref CS) rfl T.mgC rfl) pa_nil)))))
  (pss_one ps_never)
  pss_nil)
  (pss_cons (ps_set (i := 4) sc_Program_init.nd rfl (by first | exact Or.inl rfl | exact Or.inr rfl) (pe_has G_kept_blocks hr4 (pa_cons (pv 1) (pa_cons (pv 2) pa_nil))))
  (pss_cons (ps_if (PW.pt (pw_or (pt_not (pt_val (pe_has G_is_row hr1 (pa_cons (pv 3) pa_nil)))) (pw_or1 (pt_not (pt_chain op_le op_le pe_int (pe_callB call_len (by rfl) B.len PySem.boot_len (pa_cons (pv 3) pa_nil)) (pe_glob (v := .int 12) rfl MT ⟨_, rfl⟩))))))
  (pss_one ps_never)
  pss_nil)
  (pss_cons (ps_set (i := 5) sc_Program_init.nd rfl (by first | exact Or.inl rfl | exact Or.inr rfl) (pe_make (E := E0) MC GC (hr.mono (by omega)) rfl mgCC bC .nil pass0 (pa_cons (pv 1) (pa_cons (pv 4) pa_nil))))
  (pss_cons (ps_for PassesOwn.never rfl (pi_or (pi_enum (by rfl) B.enumerate (pa_cons (pv 3) pa_nil)) (pi_enumT (by rfl) B.enumerate (pa_cons (pv 3) pa_nil))) (pg_tup rfl (pgs_cons (pg_name (i := 6) sc_Program_init.nd rfl (by first | exact Or.inl rfl | exact Or.inr rfl)) (pgs_cons (pg_name (i := 7) sc_Program_init.nd rfl (by first | exact Or.inl rfl | exact Or.inr rfl)) pgs_nil)))
  (pss_cons (ps_set (i := 8) sc_Program_init.nd rfl (by first | exact Or.inl rfl | exact Or.inr rfl) (pe_meth (E := E0) (pv 5) clC mF GF (hr.mono (by omega)) bF .nil pass0 (pa_cons (pv 7) (pa_cons (pe_tup (pa_cons (pv 6) pa_nil)) (pa_cons pe_dnewK pa_nil)))))
  (pss_one (ps_if (pt_cmpR op_notN (pv 8) pe_non (nomark _))
  (pss_one ps_never)
  pss_nil))))
  (pss_cons (ps_fld (pv 0) (pv 1) rfl)
  (pss_cons (ps_fld (pv 0) (pv 4) rfl)
  (pss_one (ps_fld (pv 0) (pe_callTy (r := rTupO K) call_tuple_of (by rfl) B.tuple (by decide +kernel) (pa_cons (pe_lc (own := [("statement", 7)]) (g := gName 7) (by rfl) sc_Program_init.nd (pi_or (pi_list (pv 3)) (pi_tup (pv 3))) (blkOk_by (own := [("statement", 7)]) (N := N_Program_init) (sc := defScope s_Program_init) (by decide +kernel)) (fun _ _ _ _ _ => (pg_name (i := 7) sc_Program_init.nd rfl (by first | exact Or.inl rfl | exact Or.inr rfl))) (fun _ _ _ _ _ => pts_nil) (fun _ _ _ _ _ => (pe_has G_kept_statement hr2 (pa_cons (pv 7) pa_nil)))) pa_nil)) rfl))))))))), ?_⟩
    have hsz : sizeLine = 16777216 := rfl
    obtain ⟨S1, hb, hS1⟩ : ∃ S1 : Addr → Prop, Dt S1 qq H nn xb db ∧ ∀ a, S1 a → H a ≠ none := ⟨_, hb.inH, fun a h => h.2⟩
    obtain ⟨S2, hy, hS2⟩ : ∃ S2 : Addr → Prop, Dt S2 qq H nn xy dy ∧ ∀ a, S2 a → H a ≠ none ∧ a ≠ p := ⟨_, hy.inH, fun a h => ⟨h.2, fun e => hSp (e ▸ h.1)⟩⟩
    obtain ⟨sx, hps⟩ : ∃ sx, ∃ v, H ps = some (.ins CS sx [("tables", v)]) := by
      obtain ⟨dx, v, h1, _⟩ := SA
      exact ⟨dx, v, h1⟩
    obtain ⟨sv, hps⟩ := hps
    refine ⟨_, rfl, _, _, _, _, _, rfl, .own CS, X.ty hps, kit_self, _, rfl, iteF ?_⟩
    refine ⟨_, rfl, _, rfl, ps, tbs, S1, qq, nn, xb, db, es, bs, rfl, SA, g, hb, rb, ab, bok, fun kb H1 k1 ib => ?_⟩
    obtain ⟨m, p1, ys, rfl, rfl, ry1, ly, hT1, ay⟩ := hy.rowI ry
    have lys : ys.length = body.length := by rw [ay.len, sy.len]
    have hy1 := hy.keep k1
    refine ⟨_, rfl, S2, qq, m + 1, .ref p1, dy, rfl, hy1, fun H2 k2 => ⟨_, rfl, ?_⟩⟩
    rw [isRow_of ry]
    refine iteF ?_
    have k12 := k1.trans k2
    have ry2 := ry1.keep k12
    refine ⟨_, rfl, _, _, rfl, ry2.len, _, _, rfl, rfl, _, rfl, iteTs (decide_eq_true (by omega)) ?_⟩
    refine ⟨_, _, rfl, rfl, _, rfl, iteFs (by rw [decide_eq_true (by omega)]; rfl) ?_⟩
    refine ⟨_, rfl, _, rfl, fun pc dxc hpc hdx hne => ?_⟩
    have kM2 : Kp [] H2 (upd (upd H2 dxc (.own pc)) pc (.ins CC dxc [])) := (Kp.new hdx).snoc (by rw [upd_ne (Ne.symm hne)]; exact hpc)
    have pc0 : H pc = none := k12.same.free hpc
    have hpcM : upd (upd H2 dxc (.own pc)) pc (.ins CC dxc []) pc = some (.ins CC dxc []) := upd_same
    generalize upd (upd H2 dxc (.own pc)) pc (.ins CC dxc []) = HM at kM2 hpcM
    have kM := k12.trans kM2
    refine ⟨pc, dxc, ps, kb, tbs, bs, rfl, hpcM, SA.kp kM (fun z => nomatch z), g, ib.kp (k2.trans kM2), bok, fun H3 dt db' dp ln k3 hq n1 n2 n3 n4 => ⟨rfl, ?_⟩⟩
    have k03 : Kp [] H H3 := kM.viaM k3 fun x hx => .inr (by rw [List.mem_singleton.mp hx]; exact pc0)
    have own0 : ∀ x ∈ ownC pc dp ln [], H x = none := fun x hx => by
      rcases List.mem_cons.mp hx with rfl | hx
      · exact pc0
      rcases List.mem_cons.mp hx with rfl | hx
      · exact kM.same.free n3
      rw [List.mem_singleton.mp hx]; exact kM.same.free n4
    have hT2 : ∀ {ls : List Addr}, (∀ x ∈ ls, x ∈ ([] : List Addr) ∨ H3 x = none) → ∀ a, S2 a → a ∉ ownC pc dp ln ls := fun {ls} hl a ha hx => by
      rcases List.mem_append.mp (show a ∈ ownC pc dp ln [] ++ ls from hx) with hx | hx
      · exact (hS2 a ha).1 (own0 a hx)
      · rcases hl a hx with h | h
        · cases h
        · exact (hS2 a ha).1 (k03.same.free h)
    have EB := blks_bound bok
    refine for_rowsE ?_ (ry1.keep k03) (fun i σ H' => (∃ o6 o7 o8, σ = [some (.ref p), some (.ref ps), some xb, some (.ref p1), some (.ref kb), some (.ref pc), o6, o7, o8]) ∧ ∃ ls cs, CkT ⟨tbs, bs⟩ n i cs (body.drop i) cs' ∧ CsS cs.seen cs ∧ CkAt CC H' pc ⟨tbs, bs⟩ cs dt db' dp ln ls ∧ Kp (ownC pc dp ln []) H3 H' ∧ ∀ x ∈ ls, x ∈ ([] : List Addr) ∨ H3 x = none) ⟨⟨_, _, _, rfl⟩, [], ⟨[], [], 0⟩, by rw [List.drop_zero]; exact hck, ⟨Nat.le_refl _, (fun b l e => by cases e), Nat.le_refl _⟩, hq, Kp.refl _, fun x hx => .inl hx⟩ (fun i σ H' h => by
      obtain ⟨_, _, _, _, _, _, k5, _⟩ := h
      exact ⟨_, k5, fun z => (hS2 p1 hT1).1 (own0 _ z)⟩) ?_ ?_
    · exact fun Q h => ⟨_, rfl, h⟩
    · rintro i u σ H5 T' ⟨⟨o6, o7, o8, rfl⟩, ls2, csi, hL2, CS2, hq5, k5, new5⟩ hu1 hT'
      obtain ⟨e, he, iu⟩ := ay.getV hu1
      have il : i < body.length := by rw [← lys]; exact (List.getElem?_eq_some_iff.mp hu1).1
      obtain ⟨s1, hs1⟩ : ∃ s1, body[i]? = some s1 := ⟨_, List.getElem?_eq_getElem il⟩
      obtain ⟨e', he', hst⟩ := sy.get hs1
      rw [he] at he'
      cases he'
      have edrop : body.drop i = s1 :: body.drop (i + 1) := by
        obtain ⟨h1, h2⟩ := List.getElem?_eq_some_iff.mp hs1
        rw [List.drop_eq_getElem_cons h1, h2]
      rw [edrop] at hL2
      cases hL2
      rename_i cs2 hck2 hrest
      have kT : Kp [] H5 (upd H5 T' (.tup [.int (i : Nat), u])) := Kp.new hT'
      have hTT : upd H5 T' (.tup [.int (i : Nat), u]) T' = some (.tup [.int (i : Nat), u]) := upd_same
      generalize upd H5 T' (.tup [.int (i : Nat), u]) = H6 at kT hTT
      have hq6 := hq5.kp0 kT
      obtain ⟨dx6, ho6⟩ := hq6.obj
      refine ⟨T', _, rfl, SqT.of hTT, rfl, _, _, rfl, _, _, rfl, rfl, ?_⟩
      refine ⟨_, rfl, pc, dx6, _, rfl, ho6, rfl, _, rfl, _, rfl, by show 1 ≤ sizeLine; decide, fun e1 he1 => ?_⟩
      have k7 : Kp [] H6 (upd H6 e1 (.tup [.int (i : Nat)])) := Kp.new he1
      have h11 : upd H6 e1 (.tup [.int (i : Nat)]) e1 = some (.tup [.int (i : Nat)]) := upd_same
      generalize upd H6 e1 (.tup [.int (i : Nat)]) = H7 at k7 h11
      refine fun D hD => ?_
      have k8 : Kp [] H7 (upd H7 D (.dK [])) := Kp.new hD
      have h22 : upd H7 D (.dK []) D = some (.dK []) := upd_same
      have h18 := k8.tp _ _ h11
      generalize upd H7 D (.dK []) = H8 at k8 h22 h18
      have k58 := kT.trans (k7.trans k8)
      have hq8 := hq5.kp0 k58
      have k38 := k5.trans k58.zero
      have own3 : ∀ a, S2 a → a ∉ ownC pc dp ln [] := fun a ha z => (hS2 a ha).1 (own0 a z)
      refine ⟨pc, D, e1, dt, db', dp, ln, ls2, ⟨tbs, bs⟩, csi, cs2, i, 1, [], [], S2, qq, m, u, e, s1, rfl, hq8, ((iu.keep k03).keepS (fun a o ha e => k38.at_ a o e (own3 a ha)) fun _ h => h), hst, hck2, ⟨[], h22, .nil⟩, h18, rfl, by decide, fun b ks ss e => (EB b ks ss e).1, CS2, fun a ha => hT2 new5 a ha, fun ls3 H9 k9 new9 hq9 CS9 => ⟨_, rfl, rfl, _, rfl, iteF ⟨⟨_, _, _, rfl⟩, ls3, cs2, hrest, CS9, hq9, k38.viaM k9 fun x hx => ?_, fun x hx => ?_⟩⟩⟩
      · rcases List.mem_append.mp (show x ∈ ownC pc dp ln [] ++ ls2 from hx) with hx | hx
        · exact .inl hx
        · exact .inr ((new5 x hx).elim (fun z => nomatch z) id)
      · rcases new9 x hx with h | h
        · exact new5 x h
        · exact hq8.new_of k38 h
    · rintro σ H5 ⟨⟨o6, o7, o8, rfl⟩, ls2, csi, _, _, _, k5, _⟩
      have k05 : Kp [] H H5 := k03.viaM k5 fun x hx => .inr (own0 x hx)
      have hp5 := k05.at_ _ _ hp (fun z => nomatch z)
      have setp : ∀ {G : Hp} {fs fs' : List (Str × V)}, G p = some (.ins CP dx fs) → Kp [p] G (upd G p (.ins CP dx fs')) := fun h => Kp.set h (fun _ z => by cases z) (by simp)
      refine ⟨_, rfl, _, rfl, p, CP, dx, _, rfl, hp5, cl, na, by show 0 < 1000; decide, ?_⟩
      have kA := setp (fs' := [("shape", .ref ps)]) hp5
      have hpA : upd H5 p (.ins CP dx [("shape", .ref ps)]) p = some (.ins CP dx [("shape", .ref ps)]) := upd_same
      show tSeq _ _ _ _ (upd H5 p (.ins CP dx [("shape", .ref ps)]))
      generalize upd H5 p (.ins CP dx [("shape", .ref ps)]) = H6 at kA hpA
      refine ⟨_, rfl, _, rfl, p, CP, dx, _, rfl, hpA, cl, nb, by show 1 < 1000; decide, ?_⟩
      have kB := setp (fs' := [("shape", .ref ps), ("blocks", .ref kb)]) hpA
      have hpB : upd H6 p (.ins CP dx [("shape", .ref ps), ("blocks", .ref kb)]) p = some (.ins CP dx [("shape", .ref ps), ("blocks", .ref kb)]) := upd_same
      dsimp only
      rw [show putF "blocks" (V.ref kb) ([("shape", .ref ps)] : List (Str × V)) = ([("shape", .ref ps), ("blocks", .ref kb)] : List (Str × V)) from rfl]
      generalize upd H6 p (.ins CP dx [("shape", .ref ps), ("blocks", .ref kb)]) = H7 at kB hpB
      have k07 : Kp [p] H H7 := k05.zero.trans (kA.trans kB)
      have nep : ∀ a o, S2 a → H a = some o → H7 a = some o := fun a o ha e => k07.at_ _ _ e (by simpa using (hS2 a ha).2)
      have ry7 : RwAt H7 p1 ys := ry1.elim (fun r => .inl (k07.rd (by simpa using (hS2 p1 hT1).2) r)) (fun r => .inr (k07.tp _ _ r))
      have ay7 := ay.keepS nep (fun _ h => h)
      dsimp only [sFld, tCB, tCons]
      refine lc_im (k := 2 * n + 6) (ds := body.map dSt) ?_ ry7 (by rw [lys, List.length_map]) (by omega) (fun i u d H8 R k8 hu8 hd8 kR => ?_) fun D zs H8 h8 i8 k8 => ?_
      · exact fun Q h => ⟨_, rfl, h⟩
      · rw [List.getElem?_map] at hd8
        cases es1 : body[i]? with
        | none => rw [es1] at hd8; cases hd8
        | some s1 =>
        rw [es1] at hd8
        cases hd8
        obtain ⟨e, he, hst1⟩ := sy.get es1
        obtain ⟨e', he', iu⟩ := ay7.getV hu8
        rw [he] at he'
        cases he'
        exact ⟨rfl, _, rfl, S2, qq, m, u, e, s1, rfl, iu.keep k8, hst1, ckt_dp EB hck s1 (List.mem_of_getElem? es1), fun a2 H4 k4 i4 => kR _ _ k4 i4⟩
      · refine ⟨D, zs, rfl, .inl ⟨SqL.of h8, fun l hl => ?_⟩⟩
        have il := im_tup hl i8 (by have := i8.len; rw [List.length_map] at this; omega)
        have k9 := k8.snoc (o := .tup zs) hl
        generalize upd H8 l (.tup zs) = H9 at il k9
        have hp9 := k9.at_ _ _ hpB (fun z => nomatch z)
        refine ⟨_, rfl, p, CP, dx, _, rfl, hp9, cl, ny, by show 2 < 1000; decide, ?_⟩
        have kC := setp (fs' := [("shape", .ref ps), ("blocks", .ref kb), ("body", .ref l)]) hp9
        have k0E := (k07.trans k9.zero).trans kC
        have psp : ps ∉ [p] := fun z => by rw [List.mem_singleton.mp z, hp] at hps; cases hps
        refine k _ k0E ⟨dx, .ref kb, .ref l, upd_same, SA.kp k0E psp, ?_, il.kp kC⟩
        exact (((((((ib.kp k2).kp kM2).kp k3).kp k5).kp kA).kp kB).kp k9).kp kC
end
end Fm

namespace Fm
open PySem PySem.Spec PyProof.Rows L2
/-! ### plain: puts, reads, size, depth of statements -/
theorem lkA_noneI {α : Type} {l : List (Str × α)} {s : Str} (h : s ∉ l.map (·.1)) : lkA l s = none := by
  unfold lkA
  rw [Option.map_eq_none_iff]
  exact List.find?_eq_none.mpr fun p hp e => h (List.mem_map.mpr ⟨p, hp, of_decide_eq_true e⟩)
theorem lkA_ofI {α : Type} : ∀ {l : List (Str × α)} {p : Str × α}, (l.map (·.1)).Nodup → p ∈ l → lkA l p.1 = some p.2
  | q :: l, p, nd, h => by
    obtain ⟨n1, n2⟩ := List.nodup_cons.mp nd
    rw [lkA_cons]
    rcases List.mem_cons.mp h with rfl | h
    · rw [if_pos rfl]
    · rw [if_neg fun e => n1 (List.mem_map.mpr ⟨p, h, e.symm⟩)]
      exact lkA_ofI n2 h
mutual
def putsS : Stm → List Str
  | .put b _ _ => [b]
  | .same _ _ bo => putsB bo
  | .scan _ _ bo => putsB bo
  | .run _ _ _ bo => putsB bo
  | .seek _ _ _ _ bo => putsB bo
  | .each _ _ bo => putsB bo
  | .rise _ _ _ bo => putsB bo
  | .look _ _ _ bo => putsB bo
def putsB : List Stm → List Str
  | [] => []
  | s :: ss => putsS s ++ putsB ss
end


mutual
def szS : Stm → Nat
  | .put _ _ _ => 1
  | .same _ _ bo => 1 + szB bo
  | .scan _ _ bo => 1 + szB bo
  | .run _ _ _ bo => 1 + szB bo
  | .seek _ _ _ _ bo => 1 + szB bo
  | .each _ _ bo => 1 + szB bo
  | .rise _ _ _ bo => 1 + szB bo
  | .look _ _ _ bo => 1 + szB bo
def szB : List Stm → Nat
  | [] => 0
  | s :: ss => szS s + szB ss
end

def puN (cs : Cs) (b : Str) : List Nat := (lkA cs.pu b).getD []
mutual
def dpS : Stm → Nat
  | .put _ _ _ => 0
  | .same _ _ bo => dpB bo + 1
  | .scan _ _ bo => dpB bo + 1
  | .run _ _ _ bo => dpB bo + 1
  | .seek _ _ _ _ bo => dpB bo + 1
  | .each _ _ bo => dpB bo + 1
  | .rise _ _ _ bo => dpB bo + 1
  | .look _ _ _ bo => dpB bo + 1
def dpB : List Stm → Nat
  | [] => 0
  | s :: ss => max (dpS s) (dpB ss)
end

end Fm

namespace Fm
open PySem PySem.Spec PyProof.Rows L2
mutual
inductive LtD (φ : Str → Str) : PyData → Stm → Prop
  | put {b : Str} {ts : List Tm} {adds : List (List Prd)} : LtD φ (dSt (.put (φ b) ts adds)) (.put b ts adds)
  | same {a b : Tm} {body : List Stm} {db : PyData} {es : List PyData} : RowD db es → LtDs φ es body → LtD φ (.tuple [.str "same", dTm a, dTm b, db]) (.same a b body)
  | scan {v t : Str} {body : List Stm} {db : PyData} {es : List PyData} : RowD db es → LtDs φ es body → LtD φ (.tuple [.str "scan", .str v, .str t, db]) (.scan v t body)
  | run {v t f : Str} {body : List Stm} {db : PyData} {es : List PyData} : RowD db es → LtDs φ es body → LtD φ (.tuple [.str "run", .str v, .str t, .str f, db]) (.run v t f body)
  | seek {v t f : Str} {a : Tm} {body : List Stm} {db : PyData} {es : List PyData} : RowD db es → LtDs φ es body → LtD φ (.tuple [.str "seek", .str v, .str t, .str f, dTm a, db]) (.seek v t f a body)
  | each {v b : Str} {body : List Stm} {db : PyData} {es : List PyData} : RowD db es → LtDs φ es body → LtD φ (.tuple [.str "each", .str v, .str (φ b), db]) (.each v b body)
  | rise {v b k : Str} {body : List Stm} {db : PyData} {es : List PyData} : RowD db es → LtDs φ es body → LtD φ (.tuple [.str "rise", .str v, .str (φ b), .str k, db]) (.rise v b k body)
  | look {v b : Str} {ts : List Tm} {body : List Stm} {db : PyData} {es : List PyData} : RowD db es → LtDs φ es body → LtD φ (.tuple [.str "look", .str v, .str (φ b), .tuple (ts.map dTm), db]) (.look v b ts body)
inductive LtDs (φ : Str → Str) : List PyData → List Stm → Prop
  | nil : LtDs φ [] []
  | cons {d : PyData} {s : Stm} {ds : List PyData} {ss : List Stm} : LtD φ d s → LtDs φ ds ss → LtDs φ (d :: ds) (s :: ss)
end

theorem LtDs.len {φ : Str → Str} : ∀ {ds : List PyData} {ss : List Stm}, LtDs φ ds ss → ds.length = ss.length
  | _, _, .nil => rfl
  | _, _, .cons _ h => congrArg (· + 1) h.len
theorem LtDs.get {φ : Str → Str} : ∀ {ds : List PyData} {ss : List Stm}, LtDs φ ds ss → ∀ {i : Nat} {d : PyData}, ds[i]? = some d → ∃ s, ss[i]? = some s ∧ LtD φ d s
  | _, _, .cons a h, 0, b, e => by cases e; exact ⟨_, rfl, a⟩
  | _, _, .cons a h, i + 1, b, e => h.get (i := i) e
end Fm

namespace Fm
open PySem PySem.Spec PyProof.Rows L2
def spName : Sp := fun vs H Q _ => ∃ (b c t : Addr) (ws : List Str), vs = [.ref b, .ref t] ∧ Bag H b c ∧ H t = some (.lst (ws.map V.str)) ∧ t ≠ b ∧ t ≠ c ∧ ws.length ≤ 25 ∧
  ∀ (w : Str) (H' : Hp), IsNm w → w ∉ ws → Bag H' b c → H' t = some (.lst ((ws ++ [w]).map V.str)) → Kp [b, t] H H' → Q (.str w) H'
def menu8 : List Str := ["end", "put", "scan", "none", "of", "same", "table", "block"]
theorem menu8_nm : ∀ n : Nat, n < 8 → ∃ w, menu8[n]? = some w ∧ IsNm w := by
  intro n hn
  have : ∀ n : Fin 8, ∃ w, menu8[n.1]? = some w ∧ (1 ≤ w.length ∧ w.length ≤ 8 ∧ (w.cps.toList.all fun c => decide (97 ≤ c) && decide (c ≤ 122)) = true) := by
    intro n
    refine ⟨menu8[n.1]'(by have := n.2; show n.1 < 8; omega), by simp, ?_⟩
    revert n
    decide +kernel
  obtain ⟨w, h1, h2, h3, h4⟩ := this ⟨n, hn⟩
  refine ⟨w, h1, h2, h3, fun c hc => ?_⟩
  have := List.all_eq_true.mp h4 c hc
  simpa using this
section
variable {P : Program} {w : World} {K : PySem.W.Frag} {mg : Str → Option Value} {base : Heap}
theorem ok_name (B : Bi mg) (D : Dfn K mg "_law_name" s__law_name ["_law_bag_here", "_law_taken"]) (G_pick : Has P w K mg base CX0 "_law_pick" ["_law_bag_here", "_law_many"] 1 spPick) :
    Has P w K mg base CX0 "_law_name" ["_law_bag_here", "_law_taken"] 2 spName := by
  refine D.has sc__law_name (fun vs H Q E h => ?_) (fun f cdv A outer s H vs Q E hr h => ?_)
  · obtain ⟨b, c, t, ws, rfl, _⟩ := h; rfl
  · obtain ⟨b, c, t, ws, rfl, BG, ht, tb, tc, hw, k⟩ := h
    refine ⟨_, (pss_cons (ps_set (i := 2) sc__law_name.nd rfl (by first | exact Or.inl rfl | exact Or.inr rfl) pe_str)
  (C8.pss_cut (ps_if (pt_cmpR op_eq (pe_has G_pick hr (pa_cons (pv 0) (pa_cons pe_int pa_nil))) pe_int (nomark _))
  (pss_one (ps_set (i := 3) sc__law_name.nd rfl (by first | exact Or.inl rfl | exact Or.inr rfl) (pe_ix ix_list (pe_lst (pa_cons pe_str (pa_cons pe_str (pa_cons pe_str (pa_cons pe_str (pa_cons pe_str (pa_cons pe_str (pa_cons pe_str (pa_cons pe_str pa_nil))))))))) (pe_has G_pick hr (pa_cons (pv 0) (pa_cons pe_int pa_nil))) (fun _ _ => rfl))))
  (pss_one (ps_set (i := 3) sc__law_name.nd rfl (by first | exact Or.inl rfl | exact Or.inr rfl) (pe_join pe_str (pe_lc (own := [("_law_k", 5)]) (g := gName 5) (by rfl) sc__law_name.nd (pi_range1 rfl B.range (pa_cons (pe_op op_add pe_int (pe_has G_pick hr (pa_cons (pv 0) (pa_cons pe_int pa_nil)))) pa_nil)) (blkOk_by (own := [("_law_k", 5)]) (N := N__law_name) (sc := defScope s__law_name) (by decide +kernel)) (fun _ _ _ _ _ => (pg_name (i := 5) sc__law_name.nd rfl (by first | exact Or.inl rfl | exact Or.inr rfl))) (fun _ _ _ _ _ => pts_nil) (fun _ _ _ _ _ => (pe_ix ix_str (pv 2) (pe_has G_pick hr (pa_cons (pv 0) (pa_cons pe_int pa_nil))) (fun _ _ => rfl))))))))
  (pss_cons (ps_set (i := 4) sc__law_name.nd rfl (by first | exact Or.inl rfl | exact Or.inr rfl) (pe_slice sl_str (pv 3) po_none (po_some pe_int)))
  (C8.pss_cut (ps_for PassesOwn.never rfl (pi_range1 rfl B.range (pa_cons pe_int pa_nil)) (pg_name (i := 5) sc__law_name.nd rfl (by first | exact Or.inl rfl | exact Or.inr rfl))
  (pss_cons (ps_if (pt_cmpR op_notIn_seq (pv 3) (pv 1) (by rfl))
  (pss_one ps_break)
  pss_nil)
  (pss_one (ps_set (i := 3) sc__law_name.nd rfl (by first | exact Or.inl rfl | exact Or.inr rfl) (pe_op op_add_str (pv 4) (pe_ix ix_str (pv 2) (pv 5) (fun _ _ => rfl)))))))
  (pss_cons (ps_expr (pe_bm PySem.F.plainAttrs_list PySem.F.slot_list_append PySem.F.type_list_append mt_append (pv 1) (pa_cons (pv 3) pa_nil)))
  (pss_one (ps_ret (pv 3)))))))), ?_⟩
    -- the word drawn
    refine ⟨fun σ H' => ∃ w0 : Str, σ = [some (.ref b), some (.ref t), some (.str abc), some (.str w0), none, none] ∧ IsNm w0 ∧ Bag H' b c ∧ Kp [b] H H', ?_, ?_⟩
    · refine ⟨_, rfl, b, c, 12, rfl, BG, by decide, by decide, fun r H1 r0 r1 B1 k1 => ?_⟩
      refine ⟨rfl, _, rfl, ?_⟩
      refine ite2 (fun _ => ?_) (fun _ => ?_)
      · refine ⟨by show 8 ≤ sizeLine; decide, fun p np => ?_⟩
        have k2 := k1.snoc (o := .lst (menu8.map V.str)) np
        refine ⟨_, rfl, b, c, 8, rfl, B1.keep0 (Kp.new np), by decide, by decide, fun r H2 r0 r1 B2 k3 => ?_⟩
        have np' : H2 p = some (.lst (menu8.map V.str)) := k3.at_ p _ upd_same (fun z => by
          have e : p = b := by simpa using z
          obtain ⟨o, ho⟩ := B1.someB
          rw [← e, np] at ho; cases ho)
        obtain ⟨x, hx, nx⟩ := menu8_nm r.toNat (by omega)
        refine ⟨p, _, r, .str x, rfl, rfl, SqL.of np', atI_of r0 (by rw [List.getElem?_map, hx]; rfl), ?_⟩
        exact ⟨x, rfl, nx, B2, k2.trans k3⟩
      · refine ⟨⟨_, rfl⟩, ?_⟩
        refine ⟨_, rfl, b, c, 8, rfl, B1, by decide, by decide, fun r H2 r0 r1 B2 k2 => ?_⟩
        refine ⟨_, _, rfl, rfl, 1 + r, rfl, by omega, by omega, fun D hD => ?_⟩
        have kD := (k1.trans k2).snoc (o := .lst []) hD
        have Db : D ≠ b := fun z => by
          obtain ⟨o, ho⟩ := B2.someB
          rw [← z, hD] at ho; cases ho
        have Dc : D ≠ c := fun z => by
          obtain ⟨o, ho⟩ := B2.someC
          rw [← z, hD] at ho; cases ho
        have hDH : H D = none := by
          cases e : H D with
          | none => rfl
          | some o => rw [(k1.trans k2).at_ D o e (by simpa using Db)] at hD; cases hD
        refine lc_range (lo := 0) (n := (1 + r).toNat) (fun i H' => ∃ cs : List Nat, cs.length = i ∧ (∀ x ∈ cs, 97 ≤ x ∧ x ≤ 122) ∧ H' D = some (.lst (cs.map fun x => V.str ⟨#[x]⟩)) ∧ Bag H' b c ∧ Kp [b] H H')
          ⟨[], rfl, (fun x h => nomatch h), upd_same, B2.keep0 (Kp.new hD), kD⟩ ?_ ?_
        · rintro i H3 hi ⟨cs, hl, hc, h3, B3, k3⟩
          refine ⟨rfl, _, rfl, _, rfl, b, c, 26, rfl, B3, by decide, by decide, fun q H4 q0 q1 B4 k4 => ?_⟩
          have h4 : H4 D = some (.lst (cs.map fun x => V.str ⟨#[x]⟩)) := k4.at_ D _ h3 (by simpa using Db)
          refine ⟨abc, q, _, rfl, rfl, by rw [abc_len]; decide, abc_ix q0 q1, _, h4, ?_, ?_⟩
          · rw [List.length_map]; exact small1000 (by omega)
          · refine ⟨cs ++ [97 + q.toNat], by simp [hl], fun x hx => ?_, by rw [upd_same]; simp, ?_, (k3.trans k4).late hDH⟩
            · rcases List.mem_append.mp hx with h | h
              · exact hc x h
              · have e : x = 97 + q.toNat := by simpa using h
                omega
            · exact B4.keep (ms := [D]) (Kp.updL h4 (by simp)) (by simpa using Ne.symm Db) (by simpa using Ne.symm Dc)
        · rintro H3 ⟨cs, hl, hc, h3, B3, k3⟩
          refine ⟨_, D, cs.map fun x => (⟨#[x]⟩ : Str), rfl, rfl, .inl (SqL.of (by rw [h3, List.map_map]; rfl)), ?_, ?_⟩
          · rw [sum_ones, List.length_map, show (Str.ofString "").length = 0 by decide +kernel]
            omega
          · refine ⟨_, rfl, ?_, B3, k3⟩
            rw [txt_join_ones]
            refine ⟨?_, ?_, fun x hx => hc x (by simpa using hx)⟩
            · show 1 ≤ cs.toArray.size
              simp; omega
            · show cs.toArray.size ≤ 8
              simp; omega
    · rintro σ' H1 ⟨w0, rfl, n0, B1, k1⟩
      have ht1 : H1 t = some (.lst (ws.map V.str)) := k1.at_ t _ ht (by simpa using tb)
      obtain ⟨s7, sn⟩ := cut7 w0
      generalize hst : cutS w0 none (some 7) = st at s7 sn
      have sn' : ∀ c ∈ st.cps.toList, 97 ≤ c ∧ c ≤ 122 := fun c hc => n0.2.2 c (sn c hc)
      refine ⟨_, rfl, 7, rfl, w0, rfl, Nat.le_trans n0.2.1 (by decide), ?_⟩
      show C8.tCut _ _ _ _ _
      refine ⟨fun σ H' => ∃ (x : Str) (v : Option V), σ = [some (.ref b), some (.ref t), some (.str abc), some (.str x), some (.str st), v] ∧ IsNm x ∧ x ∉ ws ∧ H' = H1, ?_, ?_⟩
      · refine ⟨26, rfl, by decide, by decide, ?_⟩
        refine for_range (lo := 0) (n := 26) (fun i σ H' => ∃ (x : Str) (v : Option V), σ = [some (.ref b), some (.ref t), some (.str abc), some (.str x), some (.str st), v] ∧ IsNm x ∧ H' = H1 ∧ (∀ j, j + 1 < i → stemL st j ∈ ws) ∧ (0 < i → x = stemL st (i - 1)))
          ⟨w0, none, by rw [← hst]; rfl, n0, rfl, fun j h => absurd h (by omega), fun h => absurd h (by omega)⟩ ?_ ?_
        · rintro i σ H' hi ⟨x, v, rfl, nx, rfl, hj, hx⟩
          refine ⟨_, rfl, _, rfl, t, _, rfl, .inl (SqL.of ht1), rfl, flat_strs ws, _, rfl, ?_⟩
          rw [inV_strs]
          by_cases hm : x ∈ ws
          · rw [decide_eq_true hm]
            refine iteF ?_
            refine ⟨_, rfl, _, rfl, _, rfl, abc, _, _, rfl, rfl, by rw [abc_len]; decide, abc_ix (r := 0 + (i : Int)) (by omega) (by omega), _, _, rfl, rfl, ?_, ?_⟩
            · show st.length + 1 ≤ sizeLine
              exact Nat.le_trans (Nat.succ_le_succ s7) (by decide)
            · refine ⟨stemL st i, some (.int (0 + (i : Int))), ?_, stem_nm s7 sn' (by omega), rfl, fun j h => ?_, fun _ => rfl⟩
              · have e : (0 + (i : Int)).toNat = i := by omega
                rw [e]
                rfl
              · by_cases e : j + 1 < i
                · exact hj j e
                · have e2 : j = i - 1 := by omega
                  rw [e2, ← hx (by omega)]
                  exact hm
          · rw [decide_eq_false hm]
            refine iteT ?_
            exact ⟨x, _, rfl, nx, hm, rfl⟩
        · rintro σ H' ⟨x, v, rfl, nx, rfl, hj, hx⟩
          refine ⟨x, v, rfl, nx, fun hm => all_taken (s := st) hw fun j h => ?_, rfl⟩
          by_cases e : j + 1 < 26
          · exact hj j e
          · have e2 : j = 25 := by omega
            have := hx (by decide)
            rw [e2, ← this]
            exact hm
      · rintro σ' H' ⟨x, v, rfl, nx, nm, rfl⟩
        refine ⟨_, rfl, .inl ⟨rfl, _, SqL.of ht1⟩, _, rfl, t, _, _, rfl, rfl, ht1, by rw [List.length_map]; exact small1000 (by omega), ?_⟩
        refine ⟨_, rfl, ?_⟩
        refine k x _ nx nm (B1.keep (ms := [t]) (Kp.updL ht1 (by simp)) (by simpa using Ne.symm tb) (by simpa using Ne.symm tc)) (by rw [upd_same]; simp) ?_
        exact (k1.mono (by simp)).trans (Kp.updL ht1 (by simp))
end
end Fm

namespace Fm
open PySem PySem.Spec PyProof.Rows L2
theorem Kp.via {ms ms' : List Addr} {H H1 H2 : Hp} (k1 : Kp ms H H1) (k2 : Kp ms' H1 H2) (h : ∀ x ∈ ms', x ∈ ms ∨ H x = none) : Kp ms H H2 := by
  refine ⟨fun a o e n => k2.at_ a o (k1.at_ a o e n) fun z => ?_, fun a xs e => k2.tp a xs (k1.tp a xs e)⟩
  rcases h a z with h | h
  · exact n h
  · rw [h] at e
    cases e
theorem Bag.new {H : Hp} {b c p : Addr} (B : Bag H b c) (h : H p = none) : p ≠ b ∧ p ≠ c := by
  obtain ⟨o, ho⟩ := B.someB
  obtain ⟨o', ho'⟩ := B.someC
  refine ⟨fun z => ?_, fun z => ?_⟩
  · rw [← z, h] at ho
    cases ho
  · rw [← z, h] at ho'
    cases ho'
def spTables : Sp := fun vs H Q _ => ∃ (b c : Addr), vs = [.ref b] ∧ Bag H b c ∧ ∀ (t : Addr) (xs : List V) (tbs : List (Str × List Str)) (H' : Hp), Bag H' b c → Kp [b] H H' → H t = none → H' t = some (.lst xs) → ImAll H' 2 xs (tbs.map dTab) → GoodTs tbs → Q (.ref t) H'
theorem five : ∀ n : Nat, n < 5 → ∃ k : Nat, ([V.int 2, V.int 1, V.int 2, V.int 3, V.int 5] : List V)[n]? = some (.int k) ∧ 1 ≤ k ∧ k ≤ 5
  | 0, _ => ⟨2, rfl, by decide, by decide⟩
  | 1, _ => ⟨1, rfl, by decide, by decide⟩
  | 2, _ => ⟨2, rfl, by decide, by decide⟩
  | 3, _ => ⟨3, rfl, by decide, by decide⟩
  | 4, _ => ⟨5, rfl, by decide, by decide⟩
  | n + 5, h => absurd h (by omega)
section
variable {P : Program} {w : World} {K : PySem.W.Frag} {mg : Str → Option Value} {base : Heap}
theorem ok_tables (B : Bi mg) (D : Dfn K mg "_law_tables" s__law_tables ["_law_bag_here"]) (G_pick : Has P w K mg base CX0 "_law_pick" ["_law_bag_here", "_law_many"] 1 spPick) (G_name : Has P w K mg base CX0 "_law_name" ["_law_bag_here", "_law_taken"] 2 spName) :
    Has P w K mg base CX0 "_law_tables" ["_law_bag_here"] 3 spTables := by
  refine D.has sc__law_tables (fun vs H Q E h => ?_) (fun f cdv A outer s H vs Q E hr h => ?_)
  · obtain ⟨b, c, rfl, _⟩ := h; rfl
  · obtain ⟨b, c, rfl, BG, k⟩ := h
    have hr1 : Room 1 _ := hr.mono (by decide)
    refine ⟨_, (pss_cons (ps_set (i := 1) sc__law_tables.nd rfl (by first | exact Or.inl rfl | exact Or.inr rfl) (pe_lst pa_nil))
  (pss_cons (ps_set (i := 2) sc__law_tables.nd rfl (by first | exact Or.inl rfl | exact Or.inr rfl) (pe_lst pa_nil))
  (pss_cons (ps_for PassesOwn.never rfl (pi_range1 rfl B.range (pa_cons (pe_ix ix_list (pe_lst (pa_cons pe_int (pa_cons pe_int (pa_cons pe_int (pa_cons pe_int (pa_cons pe_int pa_nil)))))) (pe_has G_pick hr1 (pa_cons (pv 0) (pa_cons pe_int pa_nil))) (fun _ _ => rfl)) pa_nil)) (pg_name (i := 3) sc__law_tables.nd rfl (by first | exact Or.inl rfl | exact Or.inr rfl))
  (pss_cons (ps_set (i := 4) sc__law_tables.nd rfl (by first | exact Or.inl rfl | exact Or.inr rfl) (pe_has G_name hr (pa_cons (pv 0) (pa_cons (pv 1) pa_nil))))
  (pss_cons (ps_set (i := 5) sc__law_tables.nd rfl (by first | exact Or.inl rfl | exact Or.inr rfl) (pe_lst pa_nil))
  (pss_cons (ps_for PassesOwn.never rfl (pi_range1 rfl B.range (pa_cons (pe_op op_add pe_int (pe_has G_pick hr1 (pa_cons (pv 0) (pa_cons pe_int pa_nil)))) pa_nil)) (pg_name (i := 6) sc__law_tables.nd rfl (by first | exact Or.inl rfl | exact Or.inr rfl))
  (pss_one (ps_expr (pe_has G_name hr (pa_cons (pv 0) (pa_cons (pv 5) pa_nil))))))
  (pss_one (ps_expr (pe_bm PySem.F.plainAttrs_list PySem.F.slot_list_append PySem.F.type_list_append mt_append (pv 2) (pa_cons (pe_tup (pa_cons (pv 4) (pa_cons (pe_callTy call_tuple_of (by rfl) B.tuple (by decide +kernel) (pa_cons (pv 5) pa_nil)) pa_nil))) pa_nil))))))))
  (pss_one (ps_ret (pv 2)))))), ?_⟩
    refine ⟨by show 0 ≤ sizeLine; decide, fun pt npt => ⟨by show 0 ≤ sizeLine; decide, fun pl npl => ⟨by show 5 ≤ sizeLine; decide, fun p5 np5 => ?_⟩⟩⟩
    have tl : pt ≠ pl := fun z => by rw [← z, upd_same] at npl; cases npl
    have hpl : H pl = none := by rw [upd_ne (Ne.symm tl)] at npl; exact npl
    have k0 : Kp [] H (upd (upd (upd H pt (.lst [])) pl (.lst [])) p5 (.lst [.int 2, .int 1, .int 2, .int 3, .int 5])) := ((Kp.new npt).snoc npl).snoc np5
    have e1 : upd (upd (upd H pt (.lst [])) pl (.lst [])) p5 (.lst [.int 2, .int 1, .int 2, .int 3, .int 5]) pt = some (.lst []) := by
      have x1 : pt ≠ p5 := fun z => by rw [← z, upd_ne tl, upd_same] at np5; cases np5
      rw [upd_ne x1, upd_ne tl, upd_same]
    have e2 : upd (upd (upd H pt (.lst [])) pl (.lst [])) p5 (.lst [.int 2, .int 1, .int 2, .int 3, .int 5]) pl = some (.lst []) := by
      have x1 : pl ≠ p5 := fun z => by rw [← z, upd_same] at np5; cases np5
      rw [upd_ne x1, upd_same]
    have e3 : upd (upd (upd H pt (.lst [])) pl (.lst [])) p5 (.lst [.int 2, .int 1, .int 2, .int 3, .int 5]) p5 = some (.lst [.int 2, .int 1, .int 2, .int 3, .int 5]) := upd_same
    obtain ⟨tb, tc⟩ := BG.new npt
    obtain ⟨lb, lc⟩ := BG.new hpl
    refine ⟨_, rfl, b, c, 5, rfl, BG.keep0 k0, by decide, by decide, fun r H1 r0 r1 B1 k1 => ?_⟩
    have p5b : p5 ≠ b := (BG.keep0 ((Kp.new npt).snoc npl) |>.new np5).1
    have f1 : H1 pt = some (.lst []) := k1.at_ _ _ e1 (by simpa using tb)
    have f2 : H1 pl = some (.lst []) := k1.at_ _ _ e2 (by simpa using lb)
    have f3 : H1 p5 = _ := k1.at_ _ _ e3 (by simpa using p5b)
    have kH1 : Kp [b] H H1 := k0.zero.trans k1
    obtain ⟨kk, hk, kk1, kk5⟩ := five r.toNat (by omega)
    refine ⟨p5, _, r, .int kk, rfl, rfl, SqL.of f3, atI_of r0 hk, (kk : Int), rfl, by omega, by omega, ?_⟩
    refine for_range (lo := 0) (n := (kk : Int).toNat) (fun i σ H' => (∃ v3 v4 v5 v6 : Option V, σ = [some (.ref b), some (.ref pt), some (.ref pl), v3, v4, v5, v6]) ∧ Bag H' b c ∧ Kp [b] H H' ∧
        ∃ (tbs : List (Str × List Str)) (xs : List V), tbs.length = i ∧ H' pt = some (.lst ((tbs.map (·.1)).map V.str)) ∧ H' pl = some (.lst xs) ∧ xs.length = i ∧ ImAll H' 2 xs (tbs.map dTab) ∧ (∀ t ∈ tbs, GoodT t) ∧ (tbs.map (·.1)).Nodup)
      ⟨⟨none, none, none, none, rfl⟩, B1, kH1, [], [], rfl, f1, f2, rfl, .nil, (fun t h => nomatch h), List.nodup_nil⟩ ?_ ?_
    · rintro i σ H2 hi ⟨⟨v3, v4, v5, v6, rfl⟩, B2, k2, tbs, xs, t1, t2, t3, t4, t5, t6, t7⟩
      have hi5 : i < 5 := by omega
      refine ⟨_, rfl, _, rfl, b, c, pt, tbs.map (·.1), rfl, B2, t2, tb, tc, by rw [List.length_map]; omega, fun w1 H3 n1 nm1 B3 h3 k3 => ?_⟩
      have k3' : Kp [b] H H3 := k2.via k3 (by simp [npt])
      have lt : pl ∉ [b, pt] := by simp [lb, Ne.symm tl]
      have g3 : H3 pl = some (.lst xs) := k3.at_ _ _ t3 lt
      have i3 : ImAll H3 2 xs (tbs.map dTab) := ImAll.kp k3 t5
      refine ⟨by show 0 ≤ sizeLine; decide, fun pf npf => ?_⟩
      obtain ⟨fb, fc⟩ := B3.new npf
      have ft : pf ≠ pt := Ne.symm (ne_of_none h3 npf)
      have fl : pf ≠ pl := Ne.symm (ne_of_none g3 npf)
      have hpf : H pf = none := k3'.freeB B3 npf
      have k4 : Kp [b] H (upd H3 pf (.lst [])) := k3'.snoc npf
      refine ⟨_, rfl, b, c, 4, rfl, B3.keep0 (Kp.new npf), by decide, by decide, fun r4 H4 r40 r41 B4 k4' => ?_⟩
      have h4 : H4 pt = some (.lst ((tbs.map (·.1) ++ [w1]).map V.str)) := k4'.at_ _ _ (by rw [upd_ne (Ne.symm ft)]; exact h3) (by simpa using tb)
      have g4 : H4 pl = some (.lst xs) := k4'.at_ _ _ (by rw [upd_ne (Ne.symm fl)]; exact g3) (by simpa using lb)
      have f4 : H4 pf = some (.lst []) := k4'.at_ _ _ upd_same (by simpa using fb)
      have i4 : ImAll H4 2 xs (tbs.map dTab) := ImAll.kp k4' (ImAll.kp (Kp.new (ms := []) npf) i3)
      have k5 : Kp [b] H H4 := k4.trans k4'
      refine ⟨_, _, rfl, rfl, 1 + r4, rfl, by omega, by omega, ?_⟩
      refine for_range (lo := 0) (n := (1 + r4).toNat) (fun j σ H' => (∃ v6 : Option V, σ = [some (.ref b), some (.ref pt), some (.ref pl), some (.int (0 + (i : Int))), some (.str w1), some (.ref pf), v6]) ∧ Bag H' b c ∧ Kp [b] H H' ∧
          H' pt = some (.lst ((tbs.map (·.1) ++ [w1]).map V.str)) ∧ H' pl = some (.lst xs) ∧ ImAll H' 2 xs (tbs.map dTab) ∧ ∃ ws : List Str, ws.length = j ∧ H' pf = some (.lst (ws.map V.str)) ∧ (∀ w ∈ ws, IsNm w) ∧ ws.Nodup)
        ⟨⟨v6, rfl⟩, B4, k5, h4, g4, i4, [], rfl, f4, (fun w h => nomatch h), List.nodup_nil⟩ ?_ ?_
      · rintro j σ H5 hj ⟨⟨v6, rfl⟩, B5, k5', a1, a2, a3, ws, w1', w2, w3, w4⟩
        refine ⟨_, rfl, _, rfl, b, c, pf, ws, rfl, B5, w2, fb, fc, by omega, fun y H6 ny nmy B6 h6 k6 => ?_⟩
        have n1' : pt ∉ [b, pf] := by simp [tb, Ne.symm ft]
        have n2' : pl ∉ [b, pf] := by simp [lb, Ne.symm fl]
        refine ⟨⟨_, rfl⟩, B6, k5'.via k6 (by simp [hpf]), k6.at_ _ _ a1 n1', k6.at_ _ _ a2 n2', ImAll.kp k6 a3, ws ++ [y], by simp [w1'], h6, fun z hz => ?_, nd_snoc w4 nmy⟩
        rcases List.mem_append.mp hz with h | h
        · exact w3 z h
        · rw [List.mem_singleton.mp h]; exact ny
      · rintro σ H5 ⟨⟨v6, rfl⟩, B5, k5', a1, a2, a3, ws, w1', w2, w3, w4⟩
        refine ⟨_, rfl, .inl ⟨rfl, _, SqL.of a2⟩, _, rfl, _, rfl, pf, _, rfl, .inl ⟨SqL.of w2, fun u nu => ⟨by show 2 ≤ sizeLine; decide, fun q nq => ?_⟩⟩⟩
        have k6 : Kp [] H5 (upd (upd H5 u (.tup (ws.map V.str))) q (.tup [.str w1, .ref u])) := (Kp.new nu).snoc nq
        have a2' := k6.at_ _ _ a2 (fun z => nomatch z)
        refine ⟨pl, _, _, rfl, rfl, a2', by rw [t4]; exact small1000 (by omega), ?_⟩
        have k7 : Kp [pl] H5 (upd (upd (upd H5 u (.tup (ws.map V.str))) q (.tup [.str w1, .ref u])) pl (.lst (xs ++ [.ref q]))) := k6.zero.trans (Kp.updL a2' (by simp))
        have uq : u ≠ q := fun z => by rw [← z, upd_same] at nq; cases nq
        have ul : u ≠ pl := Ne.symm (ne_of_none a2 nu)
        have ql : q ≠ pl := fun z => by
          rw [z, upd_ne (Ne.symm ul), a2] at nq; cases nq
        refine ⟨⟨_, _, _, _, rfl⟩, B5.keep k7 (by simpa using Ne.symm lb) (by simpa using Ne.symm lc), k5'.via k7 (by simp [hpl]), tbs ++ [(w1, ws)], xs ++ [.ref q], by simp [t1], ?_, upd_same, by simp [t4], ?_, ?_, ?_⟩
        · have := k7.at_ _ _ a1 (by simpa using tl)
          rw [this]; simp
        · rw [List.map_append]
          refine DtAll.append (ImAll.kp k7 a3) (.cons ?_ .nil)
          have hu' : upd (upd (upd H5 u (.tup (ws.map V.str))) q (.tup [.str w1, .ref u])) pl (.lst (xs ++ [.ref q])) u = some (.tup (ws.map V.str)) := by rw [upd_ne ul, upd_ne uq, upd_same]
          have hq' : upd (upd (upd H5 u (.tup (ws.map V.str))) q (.tup [.str w1, .ref u])) pl (.lst (xs ++ [.ref q])) q = some (.tup [.str w1, .ref u]) := by rw [upd_ne ql, upd_same]
          exact .tup hq' ⟨by simp, _, hq'⟩ (.cons (.str _ (Nat.le_trans n1.2.1 (by decide))) (.cons (.tup hu' ⟨by rw [List.length_map]; omega, _, hu'⟩ (dtAll_strs fun w' hw' => Nat.le_trans (w3 w' hw').2.1 (by decide))) .nil))
        · intro t ht
          rcases List.mem_append.mp ht with h | h
          · exact t6 t h
          · rw [List.mem_singleton.mp h]
            exact ⟨n1, w3, w4, by show 1 ≤ ws.length; omega, by show ws.length ≤ 4; omega⟩
        · rw [List.map_append]
          exact nd_snoc t7 nm1
    · rintro σ H2 ⟨⟨v3, v4, v5, v6, rfl⟩, B2, k2, tbs, xs, t1, t2, t3, t4, t5, t6, t7⟩
      refine ⟨_, rfl, k pl xs tbs H2 B2 k2 hpl t3 t5 ⟨t6, t7, by omega, by omega⟩⟩
end
end Fm

namespace Fm
open PySem PySem.Spec PyProof.Rows L2
/-! ### the law's blocks -/
def spBlocks : Sp := fun vs H Q _ => ∃ (b c t : Addr) (xs : List V) (tbs : List (Str × List Str)) (m : Nat), vs = [.ref b, .ref t, .int m] ∧ Bag H b c ∧ H t = some (.lst xs) ∧ t ≠ b ∧ ImAll H 2 xs (tbs.map dTab) ∧ GoodTs tbs ∧ m ≤ 6 ∧
  ∀ (l : Addr) (ys : List V) (bs : List Blk) (H' : Hp), Bag H' b c → Kp [b] H H' → H l = none → H' l = some (.lst ys) → ImAll H' 2 ys (bs.map dBlk) → bs.length = m → (∀ x ∈ bs, BlkG x) → (tbs.map (·.1) ++ bs.map (·.1)).Nodup → Q (.ref l) H'
theorem fiveB : ∀ n : Nat, n < 5 → ∃ k : Nat, ([V.int 1, V.int 2, V.int 1, V.int 0, V.int 3] : List V)[n]? = some (.int k) ∧ k ≤ 3
  | 0, _ => ⟨1, rfl, by decide⟩
  | 1, _ => ⟨2, rfl, by decide⟩
  | 2, _ => ⟨1, rfl, by decide⟩
  | 3, _ => ⟨0, rfl, by decide⟩
  | 4, _ => ⟨3, rfl, by decide⟩
  | n + 5, h => absurd h (by omega)
theorem fourB : ∀ n : Nat, n < 4 → ∃ k : Nat, ([V.int 1, V.int 2, V.int 1, V.int 3] : List V)[n]? = some (.int k) ∧ 1 ≤ k ∧ k ≤ 3
  | 0, _ => ⟨1, rfl, by decide, by decide⟩
  | 1, _ => ⟨2, rfl, by decide, by decide⟩
  | 2, _ => ⟨1, rfl, by decide, by decide⟩
  | 3, _ => ⟨3, rfl, by decide, by decide⟩
  | n + 4, h => absurd h (by omega)
section
variable {P : Program} {w : World} {K : PySem.W.Frag} {mg : Str → Option Value} {base : Heap}
theorem ok_blocks (B : Bi mg) (D : Dfn K mg "_law_blocks" s__law_blocks ["_law_bag_here", "_law_tables_here", "_law_many"]) (G_pick : Has P w K mg base CX0 "_law_pick" ["_law_bag_here", "_law_many"] 1 spPick) (G_name : Has P w K mg base CX0 "_law_name" ["_law_bag_here", "_law_taken"] 2 spName) : Has P w K mg base CX0 "_law_blocks" ["_law_bag_here", "_law_tables_here", "_law_many"] 3 spBlocks := by
  refine D.has sc__law_blocks (fun vs H Q E h => ?_) (fun f cdv A outer s H vs Q E hr h => ?_)
  · obtain ⟨b, c, t, xs, tbs, m, rfl, _⟩ := h; rfl
  · obtain ⟨b, c, t, xs, tbs, m, rfl, BG, ht, tb, ix, g, m6, k⟩ := h
    have hr1 : Room 1 _ := hr.mono (by decide)
    refine ⟨_, (pss_cons (ps_setLc (i := 3) (own := [("_law_name_here", 6), ("_law_fields", 10)]) (g := gTup K 2 (gCons (gName 6) (gCons (gName 10) gNil))) (by rfl) sc__law_blocks.nd rfl rfl (sw_true rfl rfl rfl (by decide +kernel)) (pi_list (pv 1)) (blkOk_by (own := [("_law_name_here", 6), ("_law_fields", 10)]) (N := N__law_blocks) (sc := defScope s__law_blocks) (by decide +kernel)) (fun _ _ _ _ _ => (pg_tup rfl (pgs_cons (pg_name (i := 6) sc__law_blocks.nd rfl (by first | exact Or.inl rfl | exact Or.inr rfl)) (pgs_cons (pg_name (i := 10) sc__law_blocks.nd rfl (by first | exact Or.inl rfl | exact Or.inr rfl)) pgs_nil)))) (fun _ _ _ _ _ => pts_nil) (fun _ _ _ _ _ => (pv 6)))
  (pss_cons (ps_set (i := 4) sc__law_blocks.nd rfl (by first | exact Or.inl rfl | exact Or.inr rfl) (pe_lst pa_nil))
  (pss_cons (ps_for PassesOwn.never rfl (pi_range1 rfl B.range (pa_cons (pv 2) pa_nil)) (pg_name (i := 5) sc__law_blocks.nd rfl (by first | exact Or.inl rfl | exact Or.inr rfl))
  (pss_cons (ps_set (i := 6) sc__law_blocks.nd rfl (by first | exact Or.inl rfl | exact Or.inr rfl) (pe_has G_name hr (pa_cons (pv 0) (pa_cons (pv 3) pa_nil))))
  (pss_cons (ps_set (i := 7) sc__law_blocks.nd rfl (by first | exact Or.inl rfl | exact Or.inr rfl) (pe_ix ix_list (pe_lst (pa_cons pe_int (pa_cons pe_int (pa_cons pe_int (pa_cons pe_int (pa_cons pe_int pa_nil)))))) (pe_has G_pick hr1 (pa_cons (pv 0) (pa_cons pe_int pa_nil))) (fun _ _ => rfl)))
  (pss_cons (ps_set (i := 8) sc__law_blocks.nd rfl (by first | exact Or.inl rfl | exact Or.inr rfl) (pe_lst pa_nil))
  (pss_cons (ps_for PassesOwn.never rfl (pi_range1 rfl B.range (pa_cons (pe_op op_add (pv 7) (pe_ix ix_list (pe_lst (pa_cons pe_int (pa_cons pe_int (pa_cons pe_int (pa_cons pe_int pa_nil))))) (pe_has G_pick hr1 (pa_cons (pv 0) (pa_cons pe_int pa_nil))) (fun _ _ => rfl))) pa_nil)) (pg_name (i := 9) sc__law_blocks.nd rfl (by first | exact Or.inl rfl | exact Or.inr rfl))
  (pss_one (ps_expr (pe_has G_name hr (pa_cons (pv 0) (pa_cons (pv 8) pa_nil))))))
  (pss_one (ps_expr (pe_bm PySem.F.plainAttrs_list PySem.F.slot_list_append PySem.F.type_list_append mt_append (pv 4) (pa_cons (pe_tup (pa_cons (pv 6) (pa_cons (pe_callTy call_tuple_of (by rfl) B.tuple (by decide +kernel) (pa_cons (pe_slice sl_list (pv 8) po_none (po_some (pv 7))) pa_nil)) (pa_cons (pe_callTy call_tuple_of (by rfl) B.tuple (by decide +kernel) (pa_cons (pe_slice sl_list (pv 8) (po_some (pv 7)) po_none) pa_nil)) pa_nil)))) pa_nil)))))))))
  (pss_one (ps_ret (pv 4)))))), ?_⟩
    have hsz : sizeLine = 16777216 := rfl
    have el : xs.length = tbs.length := by rw [ix.len, List.length_map]
    have g5 := g.2.2.2
    refine ⟨_, rfl, t, rfl, ⟨_, SqL.of ht⟩, fun N hN => ?_⟩
    obtain ⟨Nb, Nc⟩ := BG.new hN
    refine lc_it (walk_list (xs := xs)) (fun i H' => H' N = some (.lst (((tbs.take i).map (·.1)).map V.str)) ∧ Kp [] H H') ⟨upd_same, Kp.new hN⟩ (fun i H2 _ h => SqL.of (h.2.at_ _ _ ht (fun z => nomatch z))) ?_ ?_
    · rintro i u H2 H3 hi ⟨h2, k2⟩ ⟨rfl, hu1⟩
      obtain ⟨a', b', t, rfl, ht, e1, e2⟩ := tab_at ix (Kp.refl _) hu1
      refine ⟨a', _, rfl, SqT.of (k2.tp _ _ e1), rfl, _, _, rfl, _, _, rfl, rfl, rfl, _, rfl, _, h2, ?_, ?_, k2.late hN⟩
      · rw [List.length_map, List.length_map, List.length_take]
        omega
      · rw [take_snoc ht, List.map_append, List.map_append]; exact upd_same
    rintro H2 ⟨h2, k2⟩
    rw [el, List.take_length] at h2
    have BG2 := BG.keep0 k2
    refine ⟨by show 0 ≤ sizeLine; decide, fun L hL => ?_⟩
    obtain ⟨Lb, Lc⟩ := BG2.new hL
    have NL : N ≠ L := fun z => by rw [← z, h2] at hL; cases hL
    have k3 : Kp [] H (upd H2 L (.lst [])) := k2.snoc hL
    have hN3 := (Kp.new (ms := []) (o := .lst []) hL).at_ _ _ h2 (fun z => nomatch z)
    have hL3 : upd H2 L (.lst []) L = some (.lst []) := upd_same
    have BG3 := BG2.keep0 (Kp.new (o := .lst []) hL)
    have L0 : H L = none := k2.same.free hL
    generalize upd H2 L (.lst []) = H3 at k3 hN3 hL3 BG3
    refine ⟨_, rfl, (m : Int), rfl, by omega, by omega, ?_⟩
    refine for_range (lo := 0) (n := (m : Int).toNat) (fun i σ H' => (∃ o5 o6 o7 o8 o9 o10 : Option V, σ = [some (.ref b), some (.ref t), some (.int m), some (.ref N), some (.ref L), o5, o6, o7, o8, o9, o10]) ∧ Bag H' b c ∧ Kp [b] H H' ∧
        ∃ (bs : List Blk) (ys : List V), bs.length = i ∧ H' N = some (.lst ((tbs.map (·.1) ++ bs.map (·.1)).map V.str)) ∧ H' L = some (.lst ys) ∧ ys.length = i ∧ ImAll H' 2 ys (bs.map dBlk) ∧ (∀ x ∈ bs, BlkG x) ∧ (tbs.map (·.1) ++ bs.map (·.1)).Nodup)
      ⟨⟨_, _, _, _, _, _, rfl⟩, BG3, k3.zero, [], [], rfl, by rw [List.map_nil, List.append_nil]; exact hN3, hL3, rfl, .nil, (fun x h => nomatch h), by rw [List.map_nil, List.append_nil]; exact g.2.1⟩ ?_ ?_
    · rintro i σ H4 hi ⟨⟨o5, o6, o7, o8, o9, o10, rfl⟩, B4, k4, bs, ys, lb, hN4, hL4, ly, iy, gb, nd⟩
      have hi6 : i < 6 := by omega
      refine ⟨_, rfl, _, rfl, b, c, N, _, rfl, B4, hN4, Nb, Nc, by rw [List.length_append, List.length_map, List.length_map]; omega, fun w1 H5 n1 nm1 B5 h5 k5 => ?_⟩
      have k5' : Kp [b] H H5 := k4.via k5 (by simp [hN])
      have lt : L ∉ [b, N] := by simp [Lb, Ne.symm NL]
      have hL5 : H5 L = some (.lst ys) := k5.at_ _ _ hL4 lt
      have iy5 := ImAll.kp k5 iy
      -- the number of keys
      refine ⟨by show 5 ≤ sizeLine; decide, fun p5 np5 => ?_⟩
      have m5 : Kp [] H5 _ := Kp.new (o := .lst [.int 1, .int 2, .int 1, .int 0, .int 3]) np5
      have p5b := (B5.new np5).1
      refine ⟨_, rfl, b, c, 5, rfl, B5.keep0 m5, by decide, by decide, fun r H6 r0 r1 B6 k6 => ?_⟩
      have k56 : Kp [b] H5 H6 := m5.zero.trans k6
      obtain ⟨sz, hsz1, sz3⟩ := fiveB r.toNat (by omega)
      refine ⟨p5, _, r, .int sz, rfl, rfl, SqL.of (k6.at_ _ _ upd_same (by simpa using p5b)), atI_of r0 hsz1, ?_⟩
      -- the names
      refine ⟨by show 0 ≤ sizeLine; decide, fun pf npf => ?_⟩
      obtain ⟨fb, fc⟩ := B6.new npf
      have h6 := k56.at_ _ _ h5 (by simpa using Nb)
      have hL6 := k56.at_ _ _ hL5 (by simpa using Lb)
      have fN : pf ≠ N := Ne.symm (ne_of_none h6 npf)
      have fL : pf ≠ L := Ne.symm (ne_of_none hL6 npf)
      have k6' : Kp [b] H H6 := k5'.trans k56
      have hpf : H pf = none := k6'.freeB B6 npf
      have iy6 := ImAll.kp k56 iy5
      have kf : Kp [] H6 (upd H6 pf (.lst [])) := Kp.new npf
      have hf7 : upd H6 pf (.lst []) pf = some (.lst []) := upd_same
      have B7 := B6.keep0 kf
      generalize upd H6 pf (.lst []) = H7 at kf hf7 B7
      refine ⟨_, rfl, by show 4 ≤ sizeLine; decide, fun p4 np4 => ?_⟩
      have m4 : Kp [] H7 _ := Kp.new (o := .lst [.int 1, .int 2, .int 1, .int 3]) np4
      have p4b := (B7.new np4).1
      refine ⟨_, rfl, b, c, 4, rfl, B7.keep0 m4, by decide, by decide, fun r4 H8 r40 r41 B8 k8 => ?_⟩
      have k78 : Kp [b] H7 H8 := m4.zero.trans k8
      obtain ⟨su, hsu, su1, su3⟩ := fourB r4.toNat (by omega)
      refine ⟨p4, _, r4, .int su, rfl, rfl, SqL.of (k8.at_ _ _ upd_same (by simpa using p4b)), atI_of r40 hsu, ?_⟩
      have k68 : Kp [b] H6 H8 := kf.zero.trans k78
      have k08 : Kp [b] H H8 := k6'.trans k68
      have h8 := k68.at_ _ _ h6 (by simpa using Nb)
      have hL8 := k68.at_ _ _ hL6 (by simpa using Lb)
      have hf8 := k78.at_ _ _ hf7 (by simpa using fb)
      have iy8 := ImAll.kp k68 iy6
      refine ⟨_, _, rfl, rfl, (sz : Int) + (su : Int), rfl, by omega, by omega, ?_⟩
      refine for_range (lo := 0) (n := ((sz : Int) + (su : Int)).toNat) (fun j σ H' => (∃ v9 : Option V, σ = [some (.ref b), some (.ref t), some (.int m), some (.ref N), some (.ref L), some (.int (0 + (i : Int))), some (.str w1), some (.int sz), some (.ref pf), v9, o10]) ∧ Bag H' b c ∧ Kp [b] H H' ∧
          H' N = some (.lst (((tbs.map (·.1) ++ bs.map (·.1)) ++ [w1]).map V.str)) ∧ H' L = some (.lst ys) ∧ ImAll H' 2 ys (bs.map dBlk) ∧ ∃ ws : List Str, ws.length = j ∧ H' pf = some (.lst (ws.map V.str)) ∧ (∀ w ∈ ws, IsNm w) ∧ ws.Nodup)
        ⟨⟨_, rfl⟩, B8, k08, h8, hL8, iy8, [], rfl, hf8, (fun w h => nomatch h), List.nodup_nil⟩ ?_ ?_
      · rintro j σ H9 hj ⟨⟨v9, rfl⟩, B9, k9, a1, a2, a3, ws, w1', w2, w3, w4⟩
        refine ⟨_, rfl, _, rfl, b, c, pf, ws, rfl, B9, w2, fb, fc, by omega, fun y Ha ny nmy Ba ha ka => ?_⟩
        have n1' : N ∉ [b, pf] := by simp [Nb, Ne.symm fN]
        have n2' : L ∉ [b, pf] := by simp [Lb, Ne.symm fL]
        refine ⟨⟨_, rfl⟩, Ba, k9.via ka (by simp [hpf]), ka.at_ _ _ a1 n1', ka.at_ _ _ a2 n2', ImAll.kp ka a3, ws ++ [y], by simp [w1'], ha, fun z hz => ?_, nd_snoc w4 nmy⟩
        rcases List.mem_append.mp hz with h | h
        · exact w3 z h
        · rw [List.mem_singleton.mp h]; exact ny
      · rintro σ H9 ⟨⟨v9, rfl⟩, B9, k9, a1, a2, a3, ws, w1', w2, w3, w4⟩
        have lw : ws.length = sz + su := by omega
        refine ⟨_, rfl, .inl ⟨rfl, _, SqL.of a2⟩, _, rfl, ?_⟩
        -- tuple(names[:size])
        have ct : cutV (ws.map V.str) none (some (sz : Int)) = (ws.take sz).map V.str := by rw [cut_take (by rw [List.length_map]; omega), List.map_take]
        have cd : cutV (ws.map V.str) (some (sz : Int)) none = (ws.drop sz).map V.str := by rw [cutN_drop (by rw [List.length_map]; omega), List.map_drop]
        refine ⟨_, rfl, _, rfl, (sz : Int), rfl, pf, _, rfl, SqL.of w2, fun s1 ns1 => ⟨s1, _, rfl, .inl ⟨SqL.of upd_same, fun t1 nt1 => ?_⟩⟩⟩
        rw [ct] at nt1 ⊢
        have q1 : Kp [] H9 _ := (Kp.new (o := .lst ((ws.take sz).map V.str)) ns1).snoc (o := .tup ((ws.take sz).map V.str)) nt1
        have e1 : upd (upd H9 s1 (.lst ((ws.take sz).map V.str))) t1 (.tup ((ws.take sz).map V.str)) t1 = some (.tup ((ws.take sz).map V.str)) := upd_same
        generalize upd (upd H9 s1 (.lst ((ws.take sz).map V.str))) t1 (.tup ((ws.take sz).map V.str)) = G1 at q1 e1
        refine ⟨_, rfl, _, rfl, (sz : Int), rfl, pf, _, rfl, SqL.of (q1.at_ _ _ w2 (fun z => nomatch z)), fun s2 ns2 => ⟨s2, _, rfl, .inl ⟨SqL.of upd_same, fun t2 nt2 => ?_⟩⟩⟩
        rw [cd] at nt2 ⊢
        have q2 : Kp [] G1 _ := (Kp.new (o := .lst ((ws.drop sz).map V.str)) ns2).snoc (o := .tup ((ws.drop sz).map V.str)) nt2
        have e2 : upd (upd G1 s2 (.lst ((ws.drop sz).map V.str))) t2 (.tup ((ws.drop sz).map V.str)) t2 = some (.tup ((ws.drop sz).map V.str)) := upd_same
        generalize upd (upd G1 s2 (.lst ((ws.drop sz).map V.str))) t2 (.tup ((ws.drop sz).map V.str)) = G2 at q2 e2
        have e1' := q2.tp _ _ e1
        refine ⟨by show 3 ≤ sizeLine; decide, fun q nq => ?_⟩
        have q3 : Kp [] G2 (upd G2 q (.tup [.str w1, .ref t1, .ref t2])) := Kp.new nq
        have e3 : upd G2 q (.tup [.str w1, .ref t1, .ref t2]) q = some (.tup [.str w1, .ref t1, .ref t2]) := upd_same
        have e1'' := q3.tp _ _ e1'
        have e2'' := q3.tp _ _ e2
        generalize upd G2 q (.tup [.str w1, .ref t1, .ref t2]) = G3 at q3 e3 e1'' e2''
        have q03 : Kp [] H9 G3 := q1.trans (q2.trans q3)
        have a2' := q03.at_ _ _ a2 (fun z => nomatch z)
        refine ⟨L, _, _, rfl, rfl, a2', by rw [ly]; show _ < 16777216; omega, ?_⟩
        have k7 : Kp [L] H9 (upd G3 L (.lst (ys ++ [.ref q]))) := q03.zero.trans (Kp.updL a2' (by simp))
        have qL : q ≠ L := fun z => by rw [z, a2'] at e3; cases e3
        have t1L : t1 ≠ L := fun z => by rw [z, a2'] at e1''; cases e1''
        have t2L : t2 ≠ L := fun z => by rw [z, a2'] at e2''; cases e2''
        have hA : (tbs.map (·.1) ++ (bs ++ [(w1, ws.take sz, ws.drop sz)]).map (·.1)) = (tbs.map (·.1) ++ bs.map (·.1)) ++ [w1] := by rw [List.map_append, ← List.append_assoc]; rfl
        refine ⟨⟨_, _, _, _, _, _, rfl⟩, B9.keep k7 (by simpa using Ne.symm Lb) (by simpa using Ne.symm Lc), k9.via k7 (by simp [L0]), bs ++ [(w1, ws.take sz, ws.drop sz)], ys ++ [.ref q], by simp [lb], ?_, upd_same, by simp [ly], ?_, ?_, ?_⟩
        · rw [hA]; exact k7.at_ _ _ a1 (by simpa using NL)
        · rw [List.map_append]
          refine DtAll.append (ImAll.kp k7 a3) (.cons ?_ .nil)
          have g1 : upd G3 L (.lst (ys ++ [.ref q])) q = some (.tup [.str w1, .ref t1, .ref t2]) := by rw [upd_ne qL]; exact e3
          have g2 : upd G3 L (.lst (ys ++ [.ref q])) t1 = some (.tup ((ws.take sz).map V.str)) := by rw [upd_ne t1L]; exact e1''
          have g3 : upd G3 L (.lst (ys ++ [.ref q])) t2 = some (.tup ((ws.drop sz).map V.str)) := by rw [upd_ne t2L]; exact e2''
          have big : ∀ w ∈ ws, w.length ≤ 1000000 := fun w h => Nat.le_trans (w3 w h).2.1 (by decide)
          exact .tup g1 ⟨by simp, _, g1⟩ (.cons (.str _ (Nat.le_trans n1.2.1 (by decide))) (.cons (.tup g2 ⟨by rw [List.length_map, List.length_take]; omega, _, g2⟩ (dtAll_strs fun w' hw' => big w' (List.mem_of_mem_take hw'))) (.cons (.tup g3 ⟨by rw [List.length_map, List.length_drop]; omega, _, g3⟩ (dtAll_strs fun w' hw' => big w' (List.mem_of_mem_drop hw'))) .nil)))
        · intro x hx
          rcases List.mem_append.mp hx with h | h
          · exact gb x h
          · rw [List.mem_singleton.mp h]
            exact ⟨n1, by show (ws.take sz).length ≤ 3; rw [List.length_take]; omega, by show 1 ≤ (ws.drop sz).length; rw [List.length_drop]; omega, by show (ws.drop sz).length ≤ 3; rw [List.length_drop]; omega, by show ∀ w ∈ ws.take sz ++ ws.drop sz, IsNm w; rw [List.take_append_drop]; exact w3, by show (ws.take sz ++ ws.drop sz).Nodup; rw [List.take_append_drop]; exact w4⟩
        · rw [hA]; exact nd_snoc nd nm1
    · rintro σ H4 ⟨⟨o5, o6, o7, o8, o9, o10, rfl⟩, B4, k4, bs, ys, lb, hN4, hL4, ly, iy, gb, nd⟩
      exact ⟨_, rfl, k L ys bs H4 B4 k4 L0 hL4 iy (by omega) gb nd⟩
end
end Fm

namespace Fm
open PySem PySem.Spec PyProof.Rows L2
def GoodR (tbs : List (Str × List Str)) (R : List (List (List Int))) : Prop := tbs.length = R.length ∧ ∀ (i : Nat) t r, tbs[i]? = some t → R[i]? = some r → ∀ x ∈ r, x.length = t.2.length ∧ ∀ n ∈ x, InV n
theorem KvAt.get {H : Hp} : ∀ {kvs : List (Key × V)} {ts : List (Str × List Str)} {R : List (List (List Int))}, KvAt H kvs ts R → ∀ {i : Nat} {t : Str × List Str}, ts[i]? = some t → ∃ v r, kvs[i]? = some (.inr t.1, v) ∧ R[i]? = some r ∧ Im H 2 v (dRows r)
  | _, _, _, .cons a b, 0, t, h => by cases h; exact ⟨_, _, rfl, rfl, a⟩
  | _, _, _, .cons a b, i + 1, t, h => b.get (i := i) h
theorem KvAt.len {H : Hp} {kvs : List (Key × V)} {ts : List (Str × List Str)} {R : List (List (List Int))} (h : KvAt H kvs ts R) : kvs.length = ts.length := by
  have := congrArg List.length h.keys
  rwa [List.length_map, List.length_map] at this
theorem KvAt.lenR {H : Hp} : ∀ {kvs : List (Key × V)} {ts : List (Str × List Str)} {R : List (List (List Int))}, KvAt H kvs ts R → ts.length = R.length
  | _, _, _, .nil => rfl
  | _, _, _, .cons a b => congrArg (· + 1) b.lenR
theorem KvAt.val {H : Hp} {kvs : List (Key × V)} {ts : List (Str × List Str)} {R : List (List (List Int))} (h : KvAt H kvs ts R) (nd : (ts.map (·.1)).Nodup) {i : Nat} {t : Str × List Str} (ht : ts[i]? = some t) : ∃ v r, valV kvs (.inr t.1) = some v ∧ R[i]? = some r ∧ Im H 2 v (dRows r) := by
  obtain ⟨v, r, h1, h2, h3⟩ := h.get ht
  exact ⟨v, r, valV_at (by rw [h.keys]; exact inr_nd nd) h1, h2, h3⟩
theorem Im.rows {H : Hp} {v : V} {r : List (List Int)} (h : Im H 2 v (dRows r)) : ∃ a xs, v = .ref a ∧ H a = some (.tup xs) ∧ ImAll H 1 xs (r.map dRow) ∧ xs.length = r.length ∧ xs.length ≤ 1000000 := by
  cases h with
  | tup q l a => exact ⟨_, _, rfl, q, a, by rw [a.len, List.length_map], l.1⟩
theorem vals_of {m : Nat} : ∀ {r : List (List Int)}, (∀ x ∈ r, x.length = m ∧ ∀ n ∈ x, InV n) → ValsAll m (r.map dRow) r
  | [], _ => .nil
  | x :: r, h => .cons ⟨.inr rfl, (h x List.mem_cons_self).1, (h x List.mem_cons_self).2⟩ (vals_of fun y hy => h y (List.mem_cons_of_mem _ hy))
theorem Im.rowsV {H : Hp} {v : V} {r : List (List Int)} {m : Nat} (h : Im H 2 v (dRows r)) (hr : ∀ x ∈ r, x.length = m ∧ ∀ n ∈ x, InV n) : RowsV H v m r :=
  ⟨dRows r, r.map dRow, (h.weak).imp fun _ _ => trivial, .inr rfl, vals_of hr⟩
theorem InAll.of {H : Hp} {kvs : List (Key × V)} : ∀ {ts : List (Str × List Str)} {R : List (List (List Int))}, ts.length = R.length → (∀ (i : Nat) t r, ts[i]? = some t → R[i]? = some r → TabIn H kvs t r) → InAll H kvs ts R
  | [], [], _, _ => .nil
  | t :: ts, r :: R, hl, h => .cons (h 0 t r rfl rfl) (InAll.of (Nat.succ.inj hl) fun i t' r' a b => h (i + 1) t' r' a b)
theorem nd_ne {ts : List (Str × List Str)} (nd : (ts.map (·.1)).Nodup) {i j : Nat} {t u : Str × List Str} (h : ts[i]? = some t) (h' : ts[j]? = some u) (e : t.1 = u.1) : i = j := by
  have hi : i < (ts.map (·.1)).length := by rw [List.length_map]; exact (List.getElem?_eq_some_iff.mp h).1
  have hj : j < (ts.map (·.1)).length := by rw [List.length_map]; exact (List.getElem?_eq_some_iff.mp h').1
  refine nodup_at nd hi hj ?_
  have a := (List.getElem?_eq_some_iff.mp h).2
  have b := (List.getElem?_eq_some_iff.mp h').2
  rw [List.getElem_map, List.getElem_map, a, b, e]
theorem putK_keys {kvs : List (Key × V)} {k : Key} {x : V} (h : k ∈ kvs.map (·.1)) : (putK kvs k x).map (·.1) = kvs.map (·.1) := by
  unfold putK
  rw [if_pos (List.any_eq_true.mpr (by
    obtain ⟨p, hp, e⟩ := List.mem_map.mp h
    exact ⟨p, hp, by simp [e]⟩))]
  rw [List.map_map]
  refine List.map_congr_left fun p _ => ?_
  show (if p.1 = k then (p.1, x) else p).1 = p.1
  split <;> rfl
/-- the dict with one table's rows changed -/
theorem KvAt.put {H : Hp} {kvs : List (Key × V)} {ts : List (Str × List Str)} {R : List (List (List Int))} {d : Addr} {i : Nat} {t : Str × List Str} {v' : V} {r' : List (List Int)} (h : KvAt H kvs ts R) (g : GoodTs ts) (ht : ts[i]? = some t) (hd : H d = some (.dK (putK kvs (.inr t.1) v'))) (hv : Im H 2 v' (dRows r')) (gr : GoodR ts (R.set i r')) : DictIn H d ts (R.set i r') := by
  have hk := putK_keys (x := v') (show (Sum.inr t.1 : Key) ∈ kvs.map (·.1) by rw [h.keys]; exact List.mem_map.mpr ⟨t, List.mem_of_getElem? ht, rfl⟩)
  have hl : (putK kvs (.inr t.1) v').length = ts.length := by
    have := congrArg List.length hk
    rw [List.length_map, List.length_map] at this
    rw [this, h.len]
  have := g.2.2.2
  refine ⟨_, hd, by omega, fun kv hkv => ?_, InAll.of (by rw [List.length_set]; exact h.lenR) fun j u r hu hr => ?_⟩
  · have hm : kv.1 ∈ (putK kvs (.inr t.1) v').map (·.1) := List.mem_map.mpr ⟨kv, hkv, rfl⟩
    rw [hk, h.keys] at hm
    obtain ⟨u, hu, e⟩ := List.mem_map.mp hm
    exact ⟨u, hu, e.symm⟩
  · refine .inl ?_
    rw [valV_put]
    by_cases e : u.1 = t.1
    · have ij := nd_ne g.2.1 hu ht e
      subst ij
      rw [hu] at ht
      cases ht
      rw [if_pos rfl]
      rw [List.getElem?_set_self (by rw [← h.lenR]; exact (List.getElem?_eq_some_iff.mp hu).1)] at hr
      cases hr
      exact ⟨v', rfl, hv.rowsV (gr.2 j _ _ hu (by rw [List.getElem?_set_self (by rw [← h.lenR]; exact (List.getElem?_eq_some_iff.mp hu).1)]))⟩
    · have ij : i ≠ j := fun z => by
        subst z
        rw [hu] at ht
        cases ht
        exact e rfl
      rw [if_neg (fun z => e (Sum.inr.inj z))]
      obtain ⟨v, r0, a, b, c⟩ := h.val g.2.1 hu
      have hr2 := hr
      rw [List.getElem?_set_ne ij, b] at hr
      cases hr
      exact ⟨v, a, c.rowsV (gr.2 j u _ hu hr2)⟩
theorem GoodR.set {tbs : List (Str × List Str)} {R : List (List (List Int))} {i : Nat} {t : Str × List Str} {r' : List (List Int)} (h : GoodR tbs R) (ht : tbs[i]? = some t) (hr : ∀ x ∈ r', x.length = t.2.length ∧ ∀ n ∈ x, InV n) : GoodR tbs (R.set i r') := by
  refine ⟨by rw [List.length_set]; exact h.1, fun j u r hu hj => ?_⟩
  by_cases e : i = j
  · subst e
    rw [hu] at ht
    cases ht
    rw [List.getElem?_set_self (by rw [← h.1]; exact (List.getElem?_eq_some_iff.mp hu).1)] at hj
    cases hj
    exact hr
  · rw [List.getElem?_set_ne e] at hj
    exact h.2 j u r hu hj
section
variable {P : Program} {w : World} {K : PySem.W.Frag} {mg : Str → Option Value} {base : Heap}
end
end Fm

namespace Fm
open PySem PySem.Spec PyProof.Rows L2
/-! ### dict == dict, their values data: both answers -/
inductive EqKs (K : PySem.W.Frag) (H : Hp) (ls : List (Key × V)) : List (Key × V) → Bool → Prop
  | nil : EqKs K H ls [] true
  | miss {k : Key} {v : V} {r : List (Key × V)} : valV ls k = none → EqKs K H ls ((k, v) :: r) false
  | hit {k : Key} {v u : V} {d e : PyData} {b : Bool} {r : List (Key × V)} : valV ls k = some u → L2.Dp K H v d → L2.Dp K H u e → SeqAt.shaped d = true → SeqAt.shaped e = true → EqKs K H ls r b → EqKs K H ls ((k, v) :: r) (PyData.eqv d e && b)
section
variable {X : Cx}
end
/-- a dict of the tables' rows, as law or store keeps it: rows as tuples (kept) or lists (due) -/
inductive KvG (H : Hp) (mk : List PyData → PyData) : List (Key × V) → List (Str × List Str) → List (List (List Int)) → Prop
  | nil : KvG H mk [] [] []
  | cons {S : Addr → Prop} {q : Bool} {v : V} {kvs : List (Key × V)} {t : Str × List Str} {ts : List (Str × List Str)} {r : List (List Int)} {R : List (List (List Int))} : Dt S q H 2 v (mk (r.map dRow)) → KvG H mk kvs ts R → KvG H mk ((.inr t.1, v) :: kvs) (t :: ts) (r :: R)
theorem KvAt.g {H : Hp} : ∀ {kvs : List (Key × V)} {ts : List (Str × List Str)} {R : List (List (List Int))}, KvAt H kvs ts R → KvG H .tuple kvs ts R
  | _, _, _, .nil => .nil
  | _, _, _, .cons a b => .cons a b.g
theorem KvG.len {H : Hp} {mk : List PyData → PyData} : ∀ {kvs : List (Key × V)} {ts : List (Str × List Str)} {R : List (List (List Int))}, KvG H mk kvs ts R → kvs.length = ts.length
  | _, _, _, .nil => rfl
  | _, _, _, .cons a b => congrArg (· + 1) b.len
theorem KvG.lenR {H : Hp} {mk : List PyData → PyData} : ∀ {kvs : List (Key × V)} {ts : List (Str × List Str)} {R : List (List (List Int))}, KvG H mk kvs ts R → ts.length = R.length
  | _, _, _, .nil => rfl
  | _, _, _, .cons a b => congrArg (· + 1) b.lenR
theorem KvG.keys {H : Hp} {mk : List PyData → PyData} : ∀ {kvs : List (Key × V)} {ts : List (Str × List Str)} {R : List (List (List Int))}, KvG H mk kvs ts R → kvs.map (·.1) = ts.map fun t => Sum.inr t.1
  | _, _, _, .nil => rfl
  | _, _, _, .cons a b => by rw [List.map_cons, List.map_cons, b.keys]
theorem KvG.get {H : Hp} {mk : List PyData → PyData} : ∀ {kvs : List (Key × V)} {ts : List (Str × List Str)} {R : List (List (List Int))}, KvG H mk kvs ts R → ∀ {i : Nat} {t : Str × List Str}, ts[i]? = some t → ∃ S q v r, kvs[i]? = some (.inr t.1, v) ∧ R[i]? = some r ∧ Dt S q H 2 v (mk (r.map dRow))
  | _, _, _, .cons a b, 0, t, h => by cases h; exact ⟨_, _, _, _, rfl, rfl, a⟩
  | _, _, _, .cons a b, i + 1, t, h => b.get (i := i) h
theorem KvG.val {H : Hp} {mk : List PyData → PyData} {kvs : List (Key × V)} {ts : List (Str × List Str)} {R : List (List (List Int))} (h : KvG H mk kvs ts R) (nd : (ts.map (·.1)).Nodup) {i : Nat} {t : Str × List Str} (ht : ts[i]? = some t) : ∃ S q v r, valV kvs (.inr t.1) = some v ∧ R[i]? = some r ∧ Dt S q H 2 v (mk (r.map dRow)) := by
  obtain ⟨S, q, v, r, h1, h2, h3⟩ := h.get ht
  exact ⟨S, q, v, r, valV_at (by rw [h.keys]; exact inr_nd nd) h1, h2, h3⟩
section
variable {P : Program} {w : World} {K : PySem.W.Frag} {mg : Str → Option Value} {base : Heap}
end
end Fm

namespace Fm
open PySem PySem.Spec PyProof.Rows L2
/-! ### the law's own values and rows -/
def spValue : Sp := fun vs H Q _ => ∃ (b c : Addr), vs = [.ref b] ∧ Bag H b c ∧ ∀ (v : Int) H', InV v → Bag H' b c → Kp [b] H H' → Q (.int v) H'
/-- a list of rows, held by nothing -/
def LsAt (b : Addr) (H : Hp) (v : V) (r : List (List Int)) : Prop := ∃ a xs, v = .ref a ∧ a ≠ b ∧ H a = some (.lst xs) ∧ xs.length ≤ 1000000 ∧ ImAll H 1 xs (r.map dRow)
theorem LsAt.dt {b : Addr} {H : Hp} {v : V} {r : List (List Int)} (h : LsAt b H v r) : Dt (fun _ => True) true H 2 v (.list (r.map dRow)) := by
  obtain ⟨a, xs, rfl, _, h1, h2, h3⟩ := h
  exact .lst (.inl h1) ⟨h2, trivial⟩ (h3.imp fun _ _ => trivial)
theorem LsAt.bag {b : Addr} {H H' : Hp} {v : V} {r : List (List Int)} (k : Kp [b] H H') (h : LsAt b H v r) : LsAt b H' v r := by
  obtain ⟨a, xs, rfl, n, h1, h2, h3⟩ := h
  exact ⟨a, xs, rfl, n, k.at_ _ _ h1 (by simpa using n), h2, ImAll.kp k h3⟩
theorem LsAt.dict {b D : Addr} {H H' : Hp} {z : List (Key × V)} {v : V} {r : List (List Int)} (hD : H D = some (.dK z)) (k : Kp [D] H H') (h : LsAt b H v r) : LsAt b H' v r := by
  obtain ⟨a, xs, rfl, n, h1, h2, h3⟩ := h
  exact ⟨a, xs, rfl, n, k.at_ _ _ h1 (by simpa using fun e => by rw [e, hD] at h1; cases h1), h2, ImAll.kp k h3⟩
inductive KvL (b : Addr) (H : Hp) : List (Key × V) → List (Str × List Str) → List (List (List Int)) → Prop
  | nil : KvL b H [] [] []
  | cons {v : V} {kvs : List (Key × V)} {t : Str × List Str} {ts : List (Str × List Str)} {r : List (List Int)} {R : List (List (List Int))} : LsAt b H v r → KvL b H kvs ts R → KvL b H ((.inr t.1, v) :: kvs) (t :: ts) (r :: R)
theorem KvL.g {b : Addr} {H : Hp} : ∀ {kvs : List (Key × V)} {ts : List (Str × List Str)} {R : List (List (List Int))}, KvL b H kvs ts R → KvG H .list kvs ts R
  | _, _, _, .nil => .nil
  | _, _, _, .cons a c => .cons a.dt c.g
theorem KvL.bag {b : Addr} {H H' : Hp} (k : Kp [b] H H') : ∀ {kvs : List (Key × V)} {ts : List (Str × List Str)} {R : List (List (List Int))}, KvL b H kvs ts R → KvL b H' kvs ts R
  | _, _, _, .nil => .nil
  | _, _, _, .cons a c => .cons (a.bag k) (c.bag k)
theorem KvL.snoc {b : Addr} {H : Hp} {v : V} {t : Str × List Str} {r : List (List Int)} (hv : LsAt b H v r) : ∀ {kvs : List (Key × V)} {ts : List (Str × List Str)} {R : List (List (List Int))}, KvL b H kvs ts R → KvL b H (kvs ++ [(.inr t.1, v)]) (ts ++ [t]) (R ++ [r])
  | _, _, _, .nil => .cons hv .nil
  | _, _, _, .cons a c => .cons a (c.snoc hv)
theorem KvL.get {b : Addr} {H : Hp} : ∀ {kvs : List (Key × V)} {ts : List (Str × List Str)} {R : List (List (List Int))}, KvL b H kvs ts R → ∀ {i : Nat} {t : Str × List Str}, ts[i]? = some t → ∃ v r, kvs[i]? = some (.inr t.1, v) ∧ R[i]? = some r ∧ LsAt b H v r
  | _, _, _, .cons a c, 0, t, h => by cases h; exact ⟨_, _, rfl, rfl, a⟩
  | _, _, _, .cons a c, i + 1, t, h => c.get (i := i) h
theorem KvL.val {b : Addr} {H : Hp} {kvs : List (Key × V)} {ts : List (Str × List Str)} {R : List (List (List Int))} (h : KvL b H kvs ts R) (nd : (ts.map (·.1)).Nodup) {i : Nat} {t : Str × List Str} (ht : ts[i]? = some t) : ∃ v r, valV kvs (.inr t.1) = some v ∧ R[i]? = some r ∧ LsAt b H v r := by
  obtain ⟨v, r, h1, h2, h3⟩ := h.get ht
  exact ⟨v, r, valV_at (by rw [h.g.keys]; exact inr_nd nd) h1, h2, h3⟩
theorem KvL.dict {b D : Addr} {H H' : Hp} {z : List (Key × V)} (hD : H D = some (.dK z)) (k : Kp [D] H H') : ∀ {kvs : List (Key × V)} {ts : List (Str × List Str)} {R : List (List (List Int))}, KvL b H kvs ts R → KvL b H' kvs ts R
  | _, _, _, .nil => .nil
  | _, _, _, .cons a c => .cons (a.dict hD k) (c.dict hD k)
theorem putK_cons {k k' : Key} {v x : V} {kvs : List (Key × V)} (h : k ∈ ((k', v) :: kvs).map (·.1)) (n : k' ≠ k) (h2 : k ∈ kvs.map (·.1)) : putK ((k', v) :: kvs) k x = (k', v) :: putK kvs k x := by
  unfold putK
  have a1 : ((k', v) :: kvs).any (fun kv => decide (kv.1 = k)) = true := List.any_eq_true.mpr (by
    obtain ⟨p, hp, e⟩ := List.mem_map.mp h
    exact ⟨p, hp, by simp [e]⟩)
  have a2 : kvs.any (fun kv => decide (kv.1 = k)) = true := List.any_eq_true.mpr (by
    obtain ⟨p, hp, e⟩ := List.mem_map.mp h2
    exact ⟨p, hp, by simp [e]⟩)
  rw [if_pos a1, if_pos a2, List.map_cons, if_neg n]
theorem putK_none {k : Key} {x : V} : ∀ {kvs : List (Key × V)}, k ∉ kvs.map (·.1) → kvs.map (fun kv => if kv.1 = k then (kv.1, x) else kv) = kvs
  | [], _ => rfl
  | p :: kvs, h => by
    rw [List.map_cons, if_neg (fun e => h (by rw [← e]; exact List.mem_cons_self)), putK_none fun h' => h (List.mem_cons_of_mem _ h')]
/-- one table's list changed -/
theorem KvL.put {b : Addr} {H : Hp} {v' : V} {r' : List (List Int)} (hv : LsAt b H v' r') : ∀ {kvs : List (Key × V)} {ts : List (Str × List Str)} {R : List (List (List Int))}, KvL b H kvs ts R → (ts.map (·.1)).Nodup → ∀ {i : Nat} {t : Str × List Str}, ts[i]? = some t → KvL b H (putK kvs (.inr t.1) v') ts (R.set i r')
  | _, _, _, @KvL.cons _ _ v kvs t ts r R a c, nd, 0, _, h => by
    cases h
    have hn : (Sum.inr t.1 : Key) ∉ kvs.map (·.1) := by
      rw [c.g.keys, inr_map]
      intro hm
      obtain ⟨x, hx, e⟩ := List.mem_map.mp hm
      cases e
      exact (List.nodup_cons.mp nd).1 hx
    have : putK ((.inr t.1, v) :: kvs) (.inr t.1) v' = (.inr t.1, v') :: kvs := by
      unfold putK
      rw [if_pos (by simp), List.map_cons, if_pos rfl, putK_none hn]
    rw [this]
    exact .cons hv c
  | _, _, _, @KvL.cons _ _ v kvs t ts r R a c, nd, i + 1, u, h => by
    have h : ts[i]? = some u := h
    have hm : (Sum.inr u.1 : Key) ∈ kvs.map (·.1) := by rw [c.g.keys]; exact List.mem_map.mpr ⟨u, List.mem_of_getElem? h, rfl⟩
    have hne : (Sum.inr t.1 : Key) ≠ .inr u.1 := fun e => (List.nodup_cons.mp nd).1 (List.mem_map.mpr ⟨u, List.mem_of_getElem? h, (Sum.inr.inj e).symm⟩)
    rw [putK_cons (by rw [List.map_cons]; exact List.mem_cons_of_mem _ hm) hne hm]
    exact .cons a (c.put hv (List.nodup_cons.mp nd).2 h)
/-- the law's dict of rows -/
def DueAt (b : Addr) (H : Hp) (d : Addr) (tbs : List (Str × List Str)) (R : List (List (List Int))) : Prop := d ≠ b ∧ ∃ kvs, H d = some (.dK kvs) ∧ KvL b H kvs tbs R
theorem DueAt.bag {b : Addr} {H H' : Hp} {d : Addr} {tbs : List (Str × List Str)} {R : List (List (List Int))} (h : DueAt b H d tbs R) (k : Kp [b] H H') : DueAt b H' d tbs R := by
  obtain ⟨n, kvs, h1, h2⟩ := h
  exact ⟨n, kvs, k.at_ _ _ h1 (by simpa using n), h2.bag k⟩
theorem tab_at' {ms : List Addr} {H H' : Hp} {xs : List V} {tbs : List (Str × List Str)} {i : Nat} {u : V} (ix : ImAll H 2 xs (tbs.map dTab)) (k : Kp ms H H') (hu : xs[i]? = some u) : ∃ a b t, u = .ref a ∧ tbs[i]? = some t ∧ H' a = some (.tup [.str t.1, .ref b]) ∧ H' b = some (.tup (t.2.map V.str)) := by
  obtain ⟨a, b, t, h1, h2, h3, h4⟩ := tab_at ix (Kp.refl _) hu
  exact ⟨a, b, t, h1, h2, k.tp _ _ h3, k.tp _ _ h4⟩
section
variable {P : Program} {w : World} {K : PySem.W.Frag} {mg : Str → Option Value} {base : Heap}
theorem ok_value (B : Bi mg) (D : Dfn K mg "_law_value" s__law_value ["_law_bag_here"]) (G_pick : Has P w K mg base CX0 "_law_pick" ["_law_bag_here", "_law_many"] 1 spPick) : Has P w K mg base CX0 "_law_value" ["_law_bag_here"] 2 spValue := by
  refine D.has sc__law_value (fun vs H Q E h => ?_) (fun f cdv A outer s H vs Q E hr h => ?_)
  · obtain ⟨b, c, rfl, _⟩ := h; rfl
  · obtain ⟨b, c, rfl, BG, k⟩ := h
    refine ⟨_, (pss_cons (ps_if (pt_cmpR op_eq (pe_has G_pick (hr.mono (by omega)) (pa_cons (pv 0) (pa_cons pe_int pa_nil))) pe_int (nomark _))
  (pss_cons (ps_set (i := 1) sc__law_value.nd rfl (by first | exact Or.inl rfl | exact Or.inr rfl) (pe_op op_mul (pe_has G_pick (hr.mono (by omega)) (pa_cons (pv 0) (pa_cons pe_int pa_nil))) pe_int))
  (pss_one (ps_ret (pe_op op_sub (pe_op op_mod (pe_callTy call_int1 (by rfl) B.int (by decide +kernel) (pa_cons (pe_op op_add (pv 1) (pe_has G_pick (hr.mono (by omega)) (pa_cons (pv 0) (pa_cons pe_int pa_nil)))) pa_nil)) (pe_op op_add (pe_op op_mul pe_int (pe_op op_pow pe_int pe_int)) pe_int)) (pe_op op_pow pe_int pe_int)))))
  pss_nil)
  (pss_one (ps_ret (pe_op op_sub (pe_has G_pick (hr.mono (by omega)) (pa_cons (pv 0) (pa_cons pe_int pa_nil))) pe_int)))), ?_⟩
    refine ⟨_, rfl, b, c, 8, rfl, BG, by decide, by decide, fun r H1 r0 r1 B1 k1 => ⟨rfl, _, rfl, ?_⟩⟩
    refine ite2 (fun _ => ?_) (fun _ => ?_)
    · refine ⟨_, rfl, b, c, 44722, rfl, B1, by decide, by decide, fun r2 H2 r20 r21 B2 k2 => ⟨_, _, rfl, rfl, .inr ⟨by decide, by decide⟩, ?_⟩⟩
      refine ⟨_, rfl, _, rfl, b, c, 44722, rfl, B2, by decide, by decide, fun r3 H3 r30 r31 B3 k3 => ⟨_, _, rfl, rfl, .inl ⟨_, rfl, ?_⟩⟩⟩
      refine ⟨_, _, rfl, rfl, ⟨by decide, by decide, by decide⟩, _, _, rfl, rfl, .inl ⟨by decide, by decide⟩, _, _, rfl, rfl, _, _, rfl, rfl, ?_, _, _, rfl, rfl, ⟨by decide, by decide, by decide⟩, _, _, rfl, rfl, ?_⟩
      · show (0 : Int) < 2 * 10 ^ Int.toNat 9 + 1
        decide
      · refine k _ _ ?_ B3 ((k1.trans k2).trans k3)
        have e : (10 : Int) ^ Int.toNat 9 = 1000000000 := by decide
        have e0 := Int.emod_nonneg (r2 * 44722 + r3) (show (2 * 10 ^ Int.toNat 9 + 1 : Int) ≠ 0 by decide)
        have e1 := Int.emod_lt_of_pos (r2 * 44722 + r3) (show (0 : Int) < 2 * 10 ^ Int.toNat 9 + 1 by decide)
        rw [e] at e0 e1 ⊢
        exact ⟨by omega, by omega⟩
    · refine ⟨_, rfl, b, c, 5, rfl, B1, by decide, by decide, fun r2 H2 r20 r21 B2 k2 => ⟨_, _, rfl, rfl, ?_⟩⟩
      exact k _ _ ⟨by omega, by omega⟩ B2 (k1.trans k2)
end
end Fm

namespace Fm
open PySem PySem.Spec PyProof.Rows L2
/-! ### what stands around, as the law has it -/
abbrev Sc := List Blk
def entS (x : Blk) : Ent := (!x.2.2.isEmpty, x.2.1, x.2.2)
def arS (sc : Sc) : Ar := sc.map fun x => (x.1, entS x)
structure ScOk (sc : Sc) : Prop where
  nd : (sc.map (·.1)).Nodup
  small : ∀ x ∈ sc, x.1.length ≤ 1000000 ∧ x.2.1.length ≤ 4 ∧ x.2.2.length ≤ 3 ∧ (∀ w ∈ x.2.1 ++ x.2.2, w.length ≤ 1000000) ∧ 1 ≤ (x.2.1 ++ x.2.2).length
  few : (sc.filter fun x => !x.2.2.isEmpty).length ≤ 3
  len : sc.length ≤ 100
def ScAt (b : Addr) (H : Hp) (s : Addr) (sc : Sc) : Prop := s ≠ b ∧ ∃ xs, H s = some (.lst xs) ∧ ImAll H 2 xs (sc.map dBlk)
theorem ScAt.kp {b s : Addr} {H H' : Hp} {sc : Sc} (h : ScAt b H s sc) (k : Kp [b] H H') : ScAt b H' s sc := let ⟨n, xs, a, i⟩ := h; ⟨n, xs, k.at_ _ _ a (by simpa using n), i.kp k⟩
theorem arS_lk {sc : Sc} (nd : (sc.map (·.1)).Nodup) {x : Blk} (h : x ∈ sc) : lkA (arS sc) x.1 = some (entS x) := by
  have := lkA_ofI (l := arS sc) (p := (x.1, entS x)) (by unfold arS; rw [List.map_map]; exact nd) (List.mem_map.mpr ⟨x, h, rfl⟩)
  exact this
theorem rd_field {sc : Sc} (ok : ScOk sc) {x : Blk} (h : x ∈ sc) {f : Str} (hf : f ∈ x.2.1) (st : Bool) : rdOk (arS sc) st (x.1, f) = true := by
  unfold rdOk
  rw [arS_lk ok.nd h]
  show (decide (f ∈ x.2.1) || _) = true
  rw [decide_eq_true hf]; rfl
theorem rd_any {sc : Sc} (ok : ScOk sc) {x : Blk} (h : x ∈ sc) {f : Str} (hf : f ∈ x.2.1 ++ x.2.2) : rdOk (arS sc) true (x.1, f) = true := by
  unfold rdOk
  rw [arS_lk ok.nd h]
  show (decide (f ∈ x.2.1) || (true && decide (f ∈ x.2.2))) = true
  rcases List.mem_append.mp hf with hf | hf
  · rw [decide_eq_true hf]; rfl
  · rw [decide_eq_true hf, Bool.true_and, Bool.or_true]
/-- an entry of the law's list as it stands -/
theorem blk_at {H : Hp} {n : Nat} {v : V} {x : Blk} (h : Im H n v (dBlk x)) : ∃ a f s, v = .ref a ∧ H a = some (.tup [.str x.1, .ref f, .ref s]) ∧ H f = some (.tup (x.2.1.map V.str)) ∧ H s = some (.tup (x.2.2.map V.str)) := by
  obtain ⟨a, m, xs, rfl, rfl, ha, g0⟩ := Dt.tupI h
  obtain ⟨v1, w1, rfl, h1, g1⟩ := g0.consI
  obtain ⟨v2, w2, rfl, h2, g2⟩ := g1.consI
  obtain ⟨v3, w3, rfl, h3, g3⟩ := g2.consI
  have e := g3.nilI
  subst e
  have e := h1.strI.1; subst e
  obtain ⟨f, m2, ys, rfl, rfl, hf, ay⟩ := Dt.tupI h2
  obtain ⟨s, m3, zs, rfl, _, hs, az⟩ := Dt.tupI h3
  have e := dtAll_strs_inv ay; subst e
  have e := dtAll_strs_inv az; subst e
  exact ⟨a, f, s, rfl, ha, hf, hs⟩
theorem sc_at {H : Hp} {xs : List V} {sc : Sc} (ix : ImAll H 2 xs (sc.map dBlk)) {i : Nat} {x : Blk} (hx : sc[i]? = some x) : ∃ a f s, xs[i]? = some (.ref a) ∧ H a = some (.tup [.str x.1, .ref f, .ref s]) ∧ H f = some (.tup (x.2.1.map V.str)) ∧ H s = some (.tup (x.2.2.map V.str)) := by
  obtain ⟨v, hv, iv⟩ := ix.get (i := i) (x := dBlk x) (by rw [List.getElem?_map, hx]; rfl)
  obtain ⟨a, f, s, rfl, h⟩ := blk_at iv
  exact ⟨a, f, s, hv, h⟩
def spLTerm : Sp := fun vs H Q _ => ∃ (b c s : Addr) (sc : Sc), vs = [.ref b, .ref s] ∧ Bag H b c ∧ ScAt b H s sc ∧ ScOk sc ∧ ∀ (v : V) (tm : Tm) (H' : Hp), Bag H' b c → Kp [b] H H' → Im H' 1 v (dTm tm) → TmOk (arS sc) tm → Q v H'
section
variable {P : Program} {w : World} {K : PySem.W.Frag} {mg : Str → Option Value} {base : Heap}
theorem ok_lterm (B : Bi mg) (D : Dfn K mg "_law_term" s__law_term ["_law_bag_here", "_law_scope"]) (G_pick : Has P w K mg base CX0 "_law_pick" ["_law_bag_here", "_law_many"] 1 spPick) (G_value : Has P w K mg base CX0 "_law_value" ["_law_bag_here"] 2 spValue) : Has P w K mg base CX0 "_law_term" ["_law_bag_here", "_law_scope"] 3 spLTerm := by
  refine D.has sc__law_term (fun vs H Q E h => ?_) (fun f cdv A outer s H vs Q E hr h => ?_)
  · obtain ⟨b, c, s, sc, rfl, _⟩ := h; rfl
  · obtain ⟨b, c, s, sc, rfl, BG, ⟨sb, xs, hs, ix⟩, ok, k⟩ := h
    have hsz : sizeLine = 16777216 := rfl
    refine ⟨_, (pss_cons (ps_if (PW.pt (pw_or (pt_cmpR op_eq (pe_callB call_len (by rfl) B.len PySem.boot_len (pa_cons (pv 1) pa_nil)) pe_int (nomark _)) (pw_or1 (pt_cmpR op_eq (pe_has G_pick (hr.mono (by omega)) (pa_cons (pv 0) (pa_cons pe_int pa_nil))) pe_int (nomark _)))))
  (pss_one (ps_ret (pe_has G_value (hr.mono (by omega)) (pa_cons (pv 0) pa_nil))))
  pss_nil)
  (pss_cons (ps_asg (pe_ix ix_list (pv 1) (pe_op op_sub (pe_op op_sub (pe_callB call_len (by rfl) B.len PySem.boot_len (pa_cons (pv 1) pa_nil)) pe_int) (pe_has G_pick (hr.mono (by omega)) (pa_cons (pv 0) (pa_cons (pe_callB call_len (by rfl) B.len PySem.boot_len (pa_cons (pv 1) pa_nil)) pa_nil)))) (fun _ _ => rfl)) (pg_tup rfl (pgs_cons (pg_name (i := 2) sc__law_term.nd rfl (by first | exact Or.inl rfl | exact Or.inr rfl)) (pgs_cons (pg_name (i := 3) sc__law_term.nd rfl (by first | exact Or.inl rfl | exact Or.inr rfl)) (pgs_cons (pg_name (i := 4) sc__law_term.nd rfl (by first | exact Or.inl rfl | exact Or.inr rfl)) pgs_nil)))))
  (pss_cons (ps_if (pt_cmpR op_eq (pe_callB call_len (by rfl) B.len PySem.boot_len (pa_cons (pv 3) pa_nil)) pe_int (nomark _))
  (pss_one (ps_ret (pe_has G_value (hr.mono (by omega)) (pa_cons (pv 0) pa_nil))))
  pss_nil)
  (pss_one (ps_ret (pe_tup (pa_cons pe_str (pa_cons (pv 2) (pa_cons (pe_ix (r := rIxT K) ix_tup (pv 3) (pe_has G_pick (hr.mono (by omega)) (pa_cons (pv 0) (pa_cons (pe_callB call_len (by rfl) B.len PySem.boot_len (pa_cons (pv 3) pa_nil)) pa_nil))) (fun _ _ => rfl)) pa_nil))))))))), ?_⟩
    have lx : xs.length = sc.length := by rw [ix.len, List.length_map]
    have val : ∀ {H1 : Hp} {σ : L2.St}, σ[0]? = some (some (.ref b)) → Bag H1 b c → Kp [b] H H1 → spValue [.ref b] H1 Q E0 := fun {H1 σ} _ B1 k1 => ⟨b, c, rfl, B1, fun v H2 hv B2 k2 => k _ (.val v) _ B2 (k1.trans k2) (.int v) hv⟩
    refine ⟨_, rfl, _, _, rfl, .inl ⟨_, SqL.of hs, rfl⟩, rfl, _, rfl, ite2 (fun h0 => iteT ?_) (fun h0 => ?_)⟩
    · exact ⟨_, rfl, val (σ := [some (.ref b)]) rfl BG (Kp.refl _)⟩
    have hx0 : 0 < xs.length := Nat.pos_of_ne_zero fun e => h0 (by rw [e]; rfl)
    refine ⟨_, rfl, b, c, 6, rfl, BG, by decide, by decide, fun r H1 r0 r1 B1 k1 => ⟨rfl, _, rfl, ite2 (fun _ => ?_) (fun _ => ?_)⟩⟩
    · exact ⟨_, rfl, val (σ := [some (.ref b)]) rfl B1 k1⟩
    have hs1 := k1.at_ _ _ hs (by simpa using sb)
    have l100 := ok.len
    refine ⟨_, rfl, _, rfl, _, _, rfl, .inl ⟨_, SqL.of hs1, rfl⟩, _, _, rfl, rfl, _, rfl, _, rfl, _, _, rfl, .inl ⟨_, SqL.of hs1, rfl⟩, b, c, _, rfl, B1, by omega, by omega, fun r2 H2 r20 r21 B2 k2 => ?_⟩
    have hs2 := k2.at_ _ _ hs1 (by simpa using sb)
    have k02 := k1.trans k2
    obtain ⟨i, hi⟩ : ∃ i : Nat, (xs.length : Int) - 1 - r2 = (i : Int) := ⟨((xs.length : Int) - 1 - r2).toNat, by omega⟩
    obtain ⟨x, hx⟩ : ∃ x, sc[i]? = some x := ⟨_, List.getElem?_eq_getElem (by omega)⟩
    have hxm := List.mem_of_getElem? hx
    obtain ⟨a, fa, sa, hv, ha, hf, hss⟩ := sc_at (ix.kp k02) hx
    refine ⟨_, _, rfl, rfl, s, xs, _, .ref a, rfl, rfl, SqL.of hs2, atI_of (by omega) (by rw [hi, Int.toNat_natCast]; exact hv), ?_⟩
    refine ⟨a, _, rfl, SqT.of ha, rfl, _, _, rfl, _, _, rfl, _, _, rfl, rfl, ?_⟩
    refine ⟨_, rfl, _, _, rfl, .inr ⟨_, SqT.of hf, rfl⟩, rfl, _, rfl, ite2 (fun _ => ?_) (fun hf0 => ?_)⟩
    · exact ⟨_, rfl, val (σ := [some (.ref b)]) rfl B2 k02⟩
    have hl0 : 0 < (x.2.1.map V.str).length := Nat.pos_of_ne_zero fun e => hf0 (by rw [e]; rfl)
    obtain ⟨sm1, sm2, sm3, sm4, sm5⟩ := ok.small x hxm
    have lm : (x.2.1.map V.str).length = x.2.1.length := List.length_map _
    refine ⟨_, rfl, _, rfl, _, rfl, _, rfl, _, _, rfl, .inr ⟨_, SqT.of hf, rfl⟩, b, c, _, rfl, B2, by omega, by omega, fun r3 H3 r30 r31 B3 k3 => ?_⟩
    obtain ⟨w, hw⟩ : ∃ w, x.2.1[r3.toNat]? = some w := ⟨_, List.getElem?_eq_getElem (by omega)⟩
    have hwm := List.mem_of_getElem? hw
    refine ⟨fa, _, r3, .str w, rfl, rfl, SqT.of (k3.tp _ _ hf), atI_of r30 (by rw [List.getElem?_map, hw]; rfl), ?_⟩
    refine ⟨by show 3 ≤ sizeLine; decide, fun p np => ?_⟩
    have kp : Kp [] H3 (upd H3 p (.tup [.str "of", .str x.1, .str w])) := Kp.new np
    exact k _ (.of x.1 w) _ (B3.keep0 kp) ((k02.trans k3).trans kp.zero) (.tup upd_same ⟨by simp, _, upd_same⟩ (.cons (.str _ (by decide)) (.cons (.str _ sm1) (.cons (.str _ (sm4 w (List.mem_append_left _ hwm))) .nil)))) (rd_field ok hxm hwm false)
end
end Fm

namespace Fm
open PySem PySem.Spec PyProof.Rows L2
/-! ### the law's products -/
def spLProduct : Sp := fun vs H Q _ => ∃ (b c s : Addr) (sc : Sc), vs = [.ref b, .ref s] ∧ Bag H b c ∧ ScAt b H s sc ∧ ScOk sc ∧ ∀ (v : V) (p : Prd) (H' : Hp), Bag H' b c → Kp [b] H H' → Im H' 3 v (dPrd p) → PrOk (arS sc) p → Q v H'
def FacIn (sc : Sc) (f : Fac) : Prop := ∃ x ∈ sc, f.1 = x.1 ∧ f.2 ∈ x.2.1 ++ x.2.2
def ents (sc : Sc) : Nat := (sc.filter fun x => !x.2.2.isEmpty).length
theorem ents_snoc {sc : Sc} {i : Nat} {x : Blk} (h : sc[i]? = some x) : ents (sc.take (i + 1)) = ents (sc.take i) + if x.2.2.isEmpty then 0 else 1 := by
  unfold ents
  rw [take_snoc h, List.filter_append, List.length_append]
  cases hx : x.2.2.isEmpty <;> simp [hx]
theorem ents_le {sc : Sc} {i : Nat} : ents (sc.take i) ≤ ents sc := by
  unfold ents
  exact ((List.take_sublist i sc).filter _).length_le
theorem prOk_of {sc : Sc} (ok : ScOk sc) {p : Prd} (h0 : p.1 ≠ 0) (h1 : -1000 ≤ p.1) (h2 : p.1 ≤ 1000) (h3 : p.2.length ≤ 3) (hf : ∀ f ∈ p.2, FacIn sc f) (he : ∀ x ∈ sc, x.2.2 ≠ [] → ∃ f ∈ p.2, f.1 = x.1 ∧ f.2 ∈ x.2.2) : PrOk (arS sc) p := by
  refine ⟨h0, h1, h2, h3, fun f h => ?_, fun y hy e => ?_⟩
  · obtain ⟨x, hx, e1, e2⟩ := hf f h
    have := rd_any ok hx e2
    rw [← e1] at this
    exact this
  · obtain ⟨x, hx, rfl⟩ := List.mem_map.mp hy
    refine he x hx fun z => ?_
    have e : (!x.2.2.isEmpty) = true := e
    rw [z] at e
    cases e
theorem imAll_takeQ {H : Hp} {n : Nat} : ∀ {xs : List V} {ds : List PyData}, ImAll H n xs ds → ∀ i, ImAll H n (xs.take i) (ds.take i)
  | _, _, _, 0 => .nil
  | _, _, .nil, _ + 1 => .nil
  | _, _, .cons a b, i + 1 => .cons a (imAll_takeQ b i)
theorem imAll_drop {H : Hp} {n : Nat} : ∀ {xs : List V} {ds : List PyData}, ImAll H n xs ds → ∀ i, ImAll H n (xs.drop i) (ds.drop i)
  | _, _, h, 0 => h
  | _, _, .nil, _ + 1 => .nil
  | _, _, .cons a b, i + 1 => imAll_drop b i
section
variable {P : Program} {w : World} {K : PySem.W.Frag} {mg : Str → Option Value} {base : Heap}
theorem ok_lproduct (B : Bi mg) (mgmin : mg "min" = none) (D : Dfn K mg "_law_product" s__law_product ["_law_bag_here", "_law_scope"]) (G_pick : Has P w K mg base CX0 "_law_pick" ["_law_bag_here", "_law_many"] 1 spPick) : Has P w K mg base CX0 "_law_product" ["_law_bag_here", "_law_scope"] 2 spLProduct := by
  refine D.has sc__law_product (fun vs H Q E h => ?_) (fun f cdv A outer s H vs Q E hr h => ?_)
  · obtain ⟨b, c, s, sc, rfl, _⟩ := h; rfl
  · obtain ⟨b, c, s, sc, rfl, BG, ⟨sb, xs, hs, ix⟩, ok, k⟩ := h
    have hsz : sizeLine = 16777216 := rfl
    have lx : xs.length = sc.length := by rw [ix.len, List.length_map]
    have l100 := ok.len
    refine ⟨_, (pss_cons (ps_set (i := 2) sc__law_product.nd rfl (by first | exact Or.inl rfl | exact Or.inr rfl) (pe_op op_sub (pe_has G_pick (hr.mono (by omega)) (pa_cons (pv 0) (pa_cons pe_int pa_nil))) pe_int))
  (C8.pss_cut (ps_if (pt_cmpR op_eq (pv 2) pe_int (nomark _))
  (pss_cons (ps_set (i := 2) sc__law_product.nd rfl (by first | exact Or.inl rfl | exact Or.inr rfl) (pe_op op_add (pe_has G_pick (hr.mono (by omega)) (pa_cons (pv 0) (pa_cons pe_int pa_nil))) pe_int))
  (pss_one (ps_if (pt_cmpR op_eq (pe_has G_pick (hr.mono (by omega)) (pa_cons (pv 0) (pa_cons pe_int pa_nil))) pe_int (nomark _))
  (pss_one (ps_set (i := 2) sc__law_product.nd rfl (by first | exact Or.inl rfl | exact Or.inr rfl) (pe_op op_sub pe_int (pv 2))))
  pss_nil)))
  pss_nil)
  (pss_cons (ps_set (i := 3) sc__law_product.nd rfl (by first | exact Or.inl rfl | exact Or.inr rfl) (pe_lst pa_nil))
  (C8.pss_cut (ps_for PassesOwn.never rfl (pi_list (pv 1)) (pg_tup rfl (pgs_cons (pg_name (i := 4) sc__law_product.nd rfl (by first | exact Or.inl rfl | exact Or.inr rfl)) (pgs_cons (pg_name (i := 5) sc__law_product.nd rfl (by first | exact Or.inl rfl | exact Or.inr rfl)) (pgs_cons (pg_name (i := 6) sc__law_product.nd rfl (by first | exact Or.inl rfl | exact Or.inr rfl)) pgs_nil))))
  (pss_one (ps_if (pt_cmpR op_gt (pe_callB call_len (by rfl) B.len PySem.boot_len (pa_cons (pv 6) pa_nil)) pe_int (nomark _))
  (pss_one (ps_expr (pe_bm PySem.F.plainAttrs_list PySem.F.slot_list_append PySem.F.type_list_append mt_append (pv 3) (pa_cons (pe_tup (pa_cons pe_str (pa_cons (pv 4) (pa_cons (pe_ix (r := rIxT K) ix_tup (pv 6) (pe_has G_pick (hr.mono (by omega)) (pa_cons (pv 0) (pa_cons (pe_callB call_len (by rfl) B.len PySem.boot_len (pa_cons (pv 6) pa_nil)) pa_nil))) (fun _ _ => rfl)) pa_nil)))) pa_nil))))
  pss_nil)))
  (C8.pss_cut (ps_for PassesOwn.never rfl (pi_range1 rfl B.range (pa_cons (pe_callB (call_min2 rfl) (by rfl) mgmin (by decide +kernel) (pa_cons (pe_has G_pick hr (pa_cons (pv 0) (pa_cons pe_int pa_nil))) (pa_cons (pe_op op_sub pe_int (pe_callB call_len (by rfl) B.len PySem.boot_len (pa_cons (pv 3) pa_nil))) pa_nil))) pa_nil)) (pg_name (i := 7) sc__law_product.nd rfl (by first | exact Or.inl rfl | exact Or.inr rfl))
  (pss_one (ps_if (pt_cmpR op_gt (pe_callB call_len (by rfl) B.len PySem.boot_len (pa_cons (pv 1) pa_nil)) pe_int (nomark _))
  (pss_cons (ps_asg (pe_ix ix_list (pv 1) (pe_has G_pick (hr.mono (by omega)) (pa_cons (pv 0) (pa_cons (pe_callB call_len (by rfl) B.len PySem.boot_len (pa_cons (pv 1) pa_nil)) pa_nil))) (fun _ _ => rfl)) (pg_tup rfl (pgs_cons (pg_name (i := 4) sc__law_product.nd rfl (by first | exact Or.inl rfl | exact Or.inr rfl)) (pgs_cons (pg_name (i := 5) sc__law_product.nd rfl (by first | exact Or.inl rfl | exact Or.inr rfl)) (pgs_cons (pg_name (i := 6) sc__law_product.nd rfl (by first | exact Or.inl rfl | exact Or.inr rfl)) pgs_nil)))))
  (pss_cons (ps_set (i := 8) sc__law_product.nd rfl (by first | exact Or.inl rfl | exact Or.inr rfl) (pe_op op_cat (pe_callTy call_list_of (by rfl) B.list (by decide +kernel) (pa_cons (pv 5) pa_nil)) (pe_callTy call_list_of (by rfl) B.list (by decide +kernel) (pa_cons (pv 6) pa_nil))))
  (pss_one (ps_expr (pe_bm PySem.F.plainAttrs_list PySem.F.slot_list_append PySem.F.type_list_append mt_append (pv 3) (pa_cons (pe_tup (pa_cons pe_str (pa_cons (pv 4) (pa_cons (pe_ix ix_list (pv 8) (pe_has G_pick (hr.mono (by omega)) (pa_cons (pv 0) (pa_cons (pe_callB call_len (by rfl) B.len PySem.boot_len (pa_cons (pv 8) pa_nil)) pa_nil))) (fun _ _ => rfl)) pa_nil)))) pa_nil))))))
  pss_nil)))
  (pss_cons (ps_set (i := 9) sc__law_product.nd rfl (by first | exact Or.inl rfl | exact Or.inr rfl) (pe_has G_pick (hr.mono (by omega)) (pa_cons (pv 0) (pa_cons (pe_op op_add (pe_callB call_len (by rfl) B.len PySem.boot_len (pa_cons (pv 3) pa_nil)) pe_int) pa_nil))))
  (pss_one (ps_ret (pe_tup (pa_cons (pv 2) (pa_cons (pe_callTy (r := rTupO K) call_tuple_of (by rfl) B.tuple (by decide +kernel) (pa_cons (pe_op op_cat (pe_slice sl_list (pv 3) (po_some (pv 9)) po_none) (pe_slice sl_list (pv 3) po_none (po_some (pv 9)))) pa_nil)) pa_nil))))))))))), ?_⟩
    refine ⟨_, rfl, b, c, 7, rfl, BG, by decide, by decide, fun r H1 r0 r1 B1 k1 => ⟨_, _, rfl, rfl, ?_⟩⟩
    refine ⟨fun σ H' => ∃ m : Int, σ = [some (.ref b), some (.ref s), some (.int m), none, none, none, none, none, none, none] ∧ m ≠ 0 ∧ -1000 ≤ m ∧ m ≤ 1000 ∧ Bag H' b c ∧ Kp [b] H H', ?_, ?_⟩
    · refine ⟨_, rfl, rfl, _, rfl, ite2 (fun _ => ?_) (fun h0 => ⟨r - 3, rfl, fun e => h0 (by show decide (V.int (r - 3) = V.int 0) = true; rw [e]; rfl), by omega, by omega, B1, k1⟩)⟩
      refine ⟨_, rfl, b, c, 1000, rfl, B1, by decide, by decide, fun r2 H2 r20 r21 B2 k2 => ⟨_, _, rfl, rfl, ?_⟩⟩
      refine ⟨_, rfl, b, c, 2, rfl, B2, by decide, by decide, fun r3 H3 r30 r31 B3 k3 => ⟨rfl, _, rfl, ite2 (fun _ => ?_) (fun _ => ?_)⟩⟩
      · refine ⟨_, rfl, _, _, rfl, rfl, ?_⟩
        exact ⟨0 - (r2 + 1), rfl, by omega, by omega, by omega, B3, (k1.trans k2).trans k3⟩
      · exact ⟨r2 + 1, rfl, by omega, by omega, by omega, B3, (k1.trans k2).trans k3⟩
    rintro σ' H2 ⟨m, rfl, m0, m1, m2, B2, k2⟩
    refine ⟨by show 0 ≤ sizeLine; decide, fun L hL => ?_⟩
    obtain ⟨Lb, Lc⟩ := B2.new hL
    have kL : Kp [] H2 (upd H2 L (.lst [])) := Kp.new hL
    have hLL : upd H2 L (.lst []) L = some (.lst []) := upd_same
    have B3 := B2.keep0 kL
    have k3 : Kp [b] H (upd H2 L (.lst [])) := k2.trans kL.zero
    have L0 : H L = none := k2.freeB B2 hL
    generalize upd H2 L (.lst []) = H3 at kL hLL B3 k3
    have snoc : ∀ {H' : Hp} {zs : List V} {fs : List Fac} {p : Addr} {f : Fac}, H' L = some (.lst zs) → ImAll H' 1 zs (fs.map dRd) → H' p = some (.tup [.str "of", .str f.1, .str f.2]) → f.1.length ≤ 1000000 → f.2.length ≤ 1000000 → Bag H' b c → Kp [b] H H' →
        upd H' L (.lst (zs ++ [.ref p])) L = some (.lst (zs ++ [.ref p])) ∧ ImAll (upd H' L (.lst (zs ++ [.ref p]))) 1 (zs ++ [.ref p]) ((fs ++ [f]).map dRd) ∧ Bag (upd H' L (.lst (zs ++ [.ref p]))) b c ∧ Kp [b] H (upd H' L (.lst (zs ++ [.ref p]))) := fun {H' zs fs p f} h1 h2 h3 l1 l2 h4 h5 => by
      have kU : Kp [L] H' (upd H' L (.lst (zs ++ [.ref p]))) := Kp.updL h1 (by simp)
      refine ⟨upd_same, ?_, h4.keep kU (by simpa using Ne.symm Lb) (by simpa using Ne.symm Lc), h5.via kU (by simp [L0])⟩
      rw [List.map_append]
      have hp := kU.tp _ _ h3
      exact DtAll.append (h2.kp kU) (.cons (.tup hp ⟨by simp, _, hp⟩ (.cons (.str _ (by decide)) (.cons (.str _ l1) (.cons (.str _ l2) .nil)))) .nil)
    -- a sum of each entry
    refine ⟨fun σ H' => ∃ (o4 o5 o6 : Option V) (fs : List Fac) (zs : List V), σ = [some (.ref b), some (.ref s), some (.int m), some (.ref L), o4, o5, o6, none, none, none] ∧ Bag H' b c ∧ Kp [b] H H' ∧ H' L = some (.lst zs) ∧ ImAll H' 1 zs (fs.map dRd) ∧ fs.length ≤ 3 ∧ (∀ f ∈ fs, FacIn sc f) ∧ ∀ x ∈ sc, x.2.2 ≠ [] → ∃ f ∈ fs, f.1 = x.1 ∧ f.2 ∈ x.2.2, ?_, ?_⟩
    · refine ⟨_, rfl, s, rfl, ⟨_, SqL.of (k3.at_ _ _ hs (by simpa using sb))⟩, ?_⟩
      refine for_it (walk_list (xs := xs)) (fun i σ H' => (∃ o4 o5 o6 : Option V, σ = [some (.ref b), some (.ref s), some (.int m), some (.ref L), o4, o5, o6, none, none, none]) ∧ Bag H' b c ∧ Kp [b] H H' ∧ ∃ (fs : List Fac) (zs : List V), H' L = some (.lst zs) ∧ ImAll H' 1 zs (fs.map dRd) ∧ fs.length = ents (sc.take i) ∧ (∀ f ∈ fs, FacIn sc f) ∧ ∀ x ∈ sc.take i, x.2.2 ≠ [] → ∃ f ∈ fs, f.1 = x.1 ∧ f.2 ∈ x.2.2)
        ⟨⟨_, _, _, rfl⟩, B3, k3, [], [], hLL, .nil, rfl, (fun f h => nomatch h), (fun x h => by rw [List.take_zero] at h; cases h)⟩ (fun i σ H' _ h => SqL.of (h.2.2.1.at_ _ _ hs (by simpa using sb))) ?_ ?_
      · rintro i u σ H4 H5 hi ⟨⟨o4, o5, o6, rfl⟩, B4, k4, fs, zs, hz, iz, lf, fi, fe⟩ ⟨rfl, hu1⟩
        obtain ⟨x, hx⟩ : ∃ x, sc[i]? = some x := ⟨_, List.getElem?_eq_getElem (by omega)⟩
        obtain ⟨a, fa, sa, hv, ha, hf, hss⟩ := sc_at (ix.kp k4) hx
        rw [hu1] at hv
        cases hv
        have hxm := List.mem_of_getElem? hx
        obtain ⟨sm1, sm2, sm3, sm4, sm5⟩ := ok.small x hxm
        have el := ents_snoc hx
        have e3 : ents (sc.take (i + 1)) ≤ 3 := Nat.le_trans ents_le ok.few
        have lz : zs.length = fs.length := by rw [iz.len, List.length_map]
        refine ⟨a, _, rfl, SqT.of ha, rfl, _, _, rfl, _, _, rfl, _, _, rfl, rfl, ?_⟩
        refine ⟨_, rfl, _, _, rfl, .inr ⟨_, SqT.of hss, rfl⟩, _, _, rfl, rfl, _, rfl, ?_⟩
        cases es : x.2.2 with
        | nil =>
          rw [es] at el
          refine iteFs (by rfl) ⟨⟨_, _, _, rfl⟩, B4, k4, fs, zs, hz, iz, ?_, fi, fun y hy hn => ?_⟩
          · rw [el]; simpa using lf
          · rw [take_snoc hx] at hy
            rcases List.mem_append.mp hy with h | h
            · exact fe y h hn
            · rw [List.mem_singleton.mp h, es] at hn; exact absurd rfl hn
        | cons s0 ss =>
          rw [es] at el hss
          have el : ents (sc.take (i + 1)) = ents (sc.take i) + 1 := el
          refine iteTs (decide_eq_true (by simp)) ?_
          refine ⟨_, rfl, .inl ⟨rfl, _, SqL.of hz⟩, _, rfl, _, rfl, _, rfl, _, rfl, _, _, rfl, .inr ⟨_, SqT.of hss, rfl⟩, b, c, _, rfl, B4, by simp, by rw [List.length_map, ← es]; omega, fun r6 H6 r60 r61 B6 k6 => ?_⟩
          rw [List.length_map] at r61
          obtain ⟨w, hw⟩ : ∃ w, (s0 :: ss)[r6.toNat]? = some w := ⟨_, List.getElem?_eq_getElem (by omega)⟩
          have hwm : w ∈ x.2.2 := by rw [es]; exact List.mem_of_getElem? hw
          refine ⟨sa, _, r6, .str w, rfl, rfl, SqT.of (k6.tp _ _ hss), atI_of r60 (by rw [List.getElem?_map, hw]; rfl), ?_⟩
          refine ⟨by show 3 ≤ sizeLine; decide, fun p np => ?_⟩
          have kp : Kp [] H6 (upd H6 p (.tup [.str "of", .str x.1, .str w])) := Kp.new np
          have hpp : upd H6 p (.tup [.str "of", .str x.1, .str w]) p = some (.tup [.str "of", .str x.1, .str w]) := upd_same
          have kp6 := k6.trans kp.zero
          have hz7 := kp6.at_ _ _ hz (by simpa using Lb)
          have B7 := B6.keep0 kp
          generalize upd H6 p (.tup [.str "of", .str x.1, .str w]) = H7 at kp hpp kp6 hz7 B7
          obtain ⟨q1, q2, q3, q4⟩ := snoc (f := (x.1, w)) hz7 (iz.kp kp6) hpp sm1 (sm4 w (List.mem_append_right _ hwm)) B7 (k4.trans kp6)
          refine ⟨L, _, _, rfl, rfl, hz7, by omega, ⟨⟨_, _, _, rfl⟩, q3, q4, fs ++ [(x.1, w)], _, q1, q2, ?_, fun f hf => ?_, fun y hy hn => ?_⟩⟩
          · rw [List.length_append, el, lf]; rfl
          · rcases List.mem_append.mp hf with h | h
            · exact fi f h
            · rw [List.mem_singleton.mp h]; exact ⟨x, hxm, rfl, List.mem_append_right _ hwm⟩
          · rw [take_snoc hx] at hy
            rcases List.mem_append.mp hy with h | h
            · obtain ⟨f, h1, h2⟩ := fe y h hn
              exact ⟨f, List.mem_append_left _ h1, h2⟩
            · rw [List.mem_singleton.mp h]
              exact ⟨_, List.mem_append_right _ (List.mem_singleton.mpr rfl), rfl, hwm⟩
      · rintro σ H4 ⟨⟨o4, o5, o6, rfl⟩, B4, k4, fs, zs, hz, iz, lf, fi, fe⟩
        rw [lx, List.take_length] at fe lf
        exact ⟨_, _, _, fs, zs, rfl, B4, k4, hz, iz, by rw [lf]; exact ok.few, fi, fe⟩
    rintro σ' H4 ⟨o4, o5, o6, fs, zs, rfl, B4, k4, hz, iz, l3, fi, fe⟩
    have lz : zs.length = fs.length := by rw [iz.len, List.length_map]
    -- more factors
    refine ⟨fun σ H' => ∃ (o4 o5 o6 o7 o8 : Option V) (fs : List Fac) (zs : List V), σ = [some (.ref b), some (.ref s), some (.int m), some (.ref L), o4, o5, o6, o7, o8, none] ∧ Bag H' b c ∧ Kp [b] H H' ∧ H' L = some (.lst zs) ∧ ImAll H' 1 zs (fs.map dRd) ∧ fs.length ≤ 3 ∧ (∀ f ∈ fs, FacIn sc f) ∧ ∀ x ∈ sc, x.2.2 ≠ [] → ∃ f ∈ fs, f.1 = x.1 ∧ f.2 ∈ x.2.2, ?_, ?_⟩
    · refine ⟨_, rfl, b, c, 4, rfl, B4, by decide, by decide, fun r5 H5 r50 r51 B5 k5 => ?_⟩
      have hz5 := k5.at_ _ _ hz (by simpa using Lb)
      refine ⟨_, rfl, _, _, rfl, .inl ⟨_, SqL.of hz5, rfl⟩, _, _, rfl, rfl, _, _, rfl, ?_⟩
      obtain ⟨q, hq, hq3⟩ : ∃ q : Nat, (if (3 : Int) - (zs.length : Int) < r5 then (3 : Int) - (zs.length : Int) else r5) = (q : Int) ∧ fs.length + q ≤ 3 := by
        split
        · exact ⟨3 - zs.length, by omega, by omega⟩
        · exact ⟨r5.toNat, by omega, by omega⟩
      refine ⟨(q : Int), congrArg (fun z => [V.int z]) hq, by omega, by omega, ?_⟩
      refine for_range (lo := 0) (n := (q : Int).toNat) (fun j σ H' => (∃ o4 o5 o6 o7 o8 : Option V, σ = [some (.ref b), some (.ref s), some (.int m), some (.ref L), o4, o5, o6, o7, o8, none]) ∧ Bag H' b c ∧ Kp [b] H H' ∧ ∃ (fs : List Fac) (zs : List V), H' L = some (.lst zs) ∧ ImAll H' 1 zs (fs.map dRd) ∧ fs.length + (q - j) ≤ 3 ∧ (∀ f ∈ fs, FacIn sc f) ∧ ∀ x ∈ sc, x.2.2 ≠ [] → ∃ f ∈ fs, f.1 = x.1 ∧ f.2 ∈ x.2.2)
        ⟨⟨_, _, _, _, _, rfl⟩, B5, k4.trans k5, fs, zs, hz5, iz.kp k5, by omega, fi, fe⟩ ?_ ?_
      · rintro j σ H6 hj ⟨⟨p4, p5, p6, p7, p8, rfl⟩, B6, k6, fs, zs, hz, iz, l3, fi, fe⟩
        have lz : zs.length = fs.length := by rw [iz.len, List.length_map]
        have hs6 := k6.at_ _ _ hs (by simpa using sb)
        refine ⟨_, rfl, _, _, rfl, .inl ⟨_, SqL.of hs6, rfl⟩, _, _, rfl, rfl, _, rfl, ite2 (fun h0 => ?_) (fun h0 => ⟨⟨_, _, _, _, _, rfl⟩, B6, k6, fs, zs, hz, iz, by omega, fi, fe⟩)⟩
        have hx0 : 0 < xs.length := by have := of_decide_eq_true h0; omega
        refine ⟨_, rfl, _, rfl, _, rfl, _, _, rfl, .inl ⟨_, SqL.of hs6, rfl⟩, b, c, _, rfl, B6, by omega, by omega, fun r7 H7 r70 r71 B7 k7 => ?_⟩
        have hs7 := k7.at_ _ _ hs6 (by simpa using sb)
        have k07 := k6.trans k7
        obtain ⟨x, hx⟩ : ∃ x, sc[r7.toNat]? = some x := ⟨_, List.getElem?_eq_getElem (by omega)⟩
        have hxm := List.mem_of_getElem? hx
        obtain ⟨sm1, sm2, sm3, sm4, sm5⟩ := ok.small x hxm
        obtain ⟨a, fa, sa, hv, ha, hf, hss⟩ := sc_at (ix.kp k07) hx
        refine ⟨s, xs, _, .ref a, rfl, rfl, SqL.of hs7, atI_of r70 hv, ?_⟩
        refine ⟨a, _, rfl, SqT.of ha, rfl, _, _, rfl, _, _, rfl, _, _, rfl, rfl, ?_⟩
        refine ⟨_, rfl, fa, _, rfl, .inr (SqT.of hf), fun l1 hl1 => ?_⟩
        have q1 : Kp [] H7 (upd H7 l1 (.lst (x.2.1.map V.str))) := Kp.new hl1
        have e1 : upd H7 l1 (.lst (x.2.1.map V.str)) l1 = some (.lst (x.2.1.map V.str)) := upd_same
        generalize upd H7 l1 (.lst (x.2.1.map V.str)) = G1 at q1 e1
        refine ⟨_, rfl, sa, _, rfl, .inr (SqT.of (q1.tp _ _ hss)), fun l2 hl2 => ?_⟩
        have q2 : Kp [] G1 (upd G1 l2 (.lst (x.2.2.map V.str))) := Kp.new hl2
        have e2 : upd G1 l2 (.lst (x.2.2.map V.str)) l2 = some (.lst (x.2.2.map V.str)) := upd_same
        have e1 := q2.at_ _ _ e1 (fun z => nomatch z)
        generalize upd G1 l2 (.lst (x.2.2.map V.str)) = G2 at q2 e2 e1
        refine ⟨_, _, _, _, rfl, rfl, e1, e2, by rw [List.length_map, List.length_map]; omega, fun N hN => ?_⟩
        rw [← List.map_append]
        have q3 : Kp [] G2 (upd G2 N (.lst ((x.2.1 ++ x.2.2).map V.str))) := Kp.new hN
        have e3 : upd G2 N (.lst ((x.2.1 ++ x.2.2).map V.str)) N = some (.lst ((x.2.1 ++ x.2.2).map V.str)) := upd_same
        have qq := q1.trans (q2.trans q3)
        have Nb := ((B7.keep0 (q1.trans q2)).new hN).1
        generalize upd G2 N (.lst ((x.2.1 ++ x.2.2).map V.str)) = G3 at q3 e3 qq
        have k0G := k07.trans qq.zero
        have BG3 := B7.keep0 qq
        have hzG := (k7.trans qq.zero).at_ _ _ hz (by simpa using Lb)
        have izG := (iz.kp k7).kp qq
        have lnm : ((x.2.1 ++ x.2.2).map V.str).length = (x.2.1 ++ x.2.2).length := List.length_map _
        have lle : (x.2.1 ++ x.2.2).length ≤ 7 := by rw [List.length_append]; omega
        refine ⟨_, rfl, .inl ⟨rfl, _, SqL.of hzG⟩, _, rfl, _, rfl, _, rfl, _, rfl, _, _, rfl, .inl ⟨_, SqL.of e3, rfl⟩, b, c, _, rfl, BG3, by omega, by omega, fun r8 H8 r80 r81 B8 k8 => ?_⟩
        obtain ⟨w, hw⟩ : ∃ w, (x.2.1 ++ x.2.2)[r8.toNat]? = some w := ⟨_, List.getElem?_eq_getElem (by omega)⟩
        have hwm := List.mem_of_getElem? hw
        refine ⟨N, _, r8, .str w, rfl, rfl, SqL.of (k8.at_ _ _ e3 (by simpa using Nb)), atI_of r80 (by rw [List.getElem?_map, hw]; rfl), ?_⟩
        refine ⟨by show 3 ≤ sizeLine; decide, fun p np => ?_⟩
        have kp : Kp [] H8 (upd H8 p (.tup [.str "of", .str x.1, .str w])) := Kp.new np
        have hpp : upd H8 p (.tup [.str "of", .str x.1, .str w]) p = some (.tup [.str "of", .str x.1, .str w]) := upd_same
        have kp6 := k8.trans kp.zero
        have hz7 := kp6.at_ _ _ hzG (by simpa using Lb)
        have B7 := B8.keep0 kp
        generalize upd H8 p (.tup [.str "of", .str x.1, .str w]) = H9 at kp hpp kp6 hz7 B7
        obtain ⟨u1, u2, u3, u4⟩ := snoc (f := (x.1, w)) hz7 (izG.kp kp6) hpp sm1 (sm4 w hwm) B7 (k0G.trans kp6)
        refine ⟨L, _, _, rfl, rfl, hz7, by omega, ⟨⟨_, _, _, _, _, rfl⟩, u3, u4, fs ++ [(x.1, w)], _, u1, u2, ?_, fun f hf => ?_, fun y hy hn => ?_⟩⟩
        · rw [List.length_append, List.length_cons, List.length_nil]; omega
        · rcases List.mem_append.mp hf with h | h
          · exact fi f h
          · rw [List.mem_singleton.mp h]; exact ⟨x, hxm, rfl, hwm⟩
        · obtain ⟨f, h1, h2⟩ := fe y hy hn
          exact ⟨f, List.mem_append_left _ h1, h2⟩
      · rintro σ H6 ⟨⟨p4, p5, p6, p7, p8, rfl⟩, B6, k6, fs, zs, hz, iz, l3, fi, fe⟩
        exact ⟨_, _, _, _, _, fs, zs, rfl, B6, k6, hz, iz, by omega, fi, fe⟩
    rintro σ' H5 ⟨o4, o5, o6, o7, o8, fs, zs, rfl, B5, k5, hz, iz, l3, fi, fe⟩
    have lz : zs.length = fs.length := by rw [iz.len, List.length_map]
    refine ⟨_, rfl, _, rfl, _, _, rfl, .inl ⟨_, SqL.of hz, rfl⟩, _, _, rfl, rfl, b, c, _, rfl, B5, by omega, by omega, fun r6 H6 r60 r61 B6 k6 => ?_⟩
    have hz6 := k6.at_ _ _ hz (by simpa using Lb)
    obtain ⟨at_, hat, hat2⟩ : ∃ n : Nat, r6 = (n : Int) ∧ n ≤ zs.length := ⟨r6.toNat, by omega, by omega⟩
    subst hat
    have cd : cutV zs (some (at_ : Int)) none = zs.drop at_ := cutN_drop hat2
    have ct : cutV zs none (some (at_ : Int)) = zs.take at_ := cut_take hat2
    refine ⟨_, rfl, _, rfl, _, rfl, _, rfl, L, _, rfl, SqL.of hz6, fun s1 ns1 => ?_⟩
    rw [cd]
    have q1 : Kp [] H6 (upd H6 s1 (.lst (zs.drop at_))) := Kp.new ns1
    have e1 : upd H6 s1 (.lst (zs.drop at_)) s1 = some (.lst (zs.drop at_)) := upd_same
    generalize upd H6 s1 (.lst (zs.drop at_)) = G1 at q1 e1
    refine ⟨_, rfl, _, rfl, _, rfl, L, _, rfl, SqL.of (q1.at_ _ _ hz6 (fun z => nomatch z)), fun s2 ns2 => ?_⟩
    rw [ct]
    have q2 : Kp [] G1 (upd G1 s2 (.lst (zs.take at_))) := Kp.new ns2
    have e2 : upd G1 s2 (.lst (zs.take at_)) s2 = some (.lst (zs.take at_)) := upd_same
    have e1 := q2.at_ _ _ e1 (fun z => nomatch z)
    generalize upd G1 s2 (.lst (zs.take at_)) = G2 at q2 e2 e1
    refine ⟨_, _, _, _, rfl, rfl, e1, e2, by rw [List.length_drop, List.length_take]; omega, fun N hN => ?_⟩
    have q3 : Kp [] G2 (upd G2 N (.lst (zs.drop at_ ++ zs.take at_))) := Kp.new hN
    have e3 : upd G2 N (.lst (zs.drop at_ ++ zs.take at_)) N = some (.lst (zs.drop at_ ++ zs.take at_)) := upd_same
    generalize upd G2 N (.lst (zs.drop at_ ++ zs.take at_)) = G3 at q3 e3
    refine ⟨N, _, rfl, .inl ⟨SqL.of e3, fun t1 nt1 => ?_⟩⟩
    have q4 : Kp [] G3 (upd G3 t1 (.tup (zs.drop at_ ++ zs.take at_))) := Kp.new nt1
    have e4 : upd G3 t1 (.tup (zs.drop at_ ++ zs.take at_)) t1 = some (.tup (zs.drop at_ ++ zs.take at_)) := upd_same
    generalize upd G3 t1 (.tup (zs.drop at_ ++ zs.take at_)) = G4 at q4 e4
    refine ⟨by show 2 ≤ sizeLine; decide, fun q nq => ?_⟩
    have q5 : Kp [] G4 (upd G4 q (.tup [.int m, .ref t1])) := Kp.new nq
    have e5 : upd G4 q (.tup [.int m, .ref t1]) q = some (.tup [.int m, .ref t1]) := upd_same
    have e4 := q5.tp _ _ e4
    generalize upd G4 q (.tup [.int m, .ref t1]) = G5 at q5 e5 e4
    have qq := q1.trans (q2.trans (q3.trans (q4.trans q5)))
    have izG := ((iz.kp k6).kp qq)
    have ifs : ImAll G5 1 (zs.drop at_ ++ zs.take at_) ((fs.drop at_ ++ fs.take at_).map dRd) := by
      rw [List.map_append, List.map_drop, List.map_take]
      exact DtAll.append (imAll_drop izG at_) (imAll_takeQ izG at_)
    have lq : (zs.drop at_ ++ zs.take at_).length = zs.length := by rw [List.length_append, List.length_drop, List.length_take]; omega
    have mm : ∀ f, f ∈ fs.drop at_ ++ fs.take at_ ↔ f ∈ fs := fun f => by
      conv => rhs; rw [← List.take_append_drop at_ fs]
      rw [List.mem_append, List.mem_append, or_comm]
    refine k (.ref q) (m, fs.drop at_ ++ fs.take at_) G5 (B6.keep0 qq) ((k5.trans k6).trans qq.zero) (.tup e5 ⟨by simp, _, e5⟩ (.cons (.int _) (.cons (.tup e4 ⟨by rw [lq]; omega, _, e4⟩ ifs) .nil))) (prOk_of ok m0 m1 m2 ?_ (fun f hf => fi f ((mm f).mp hf)) fun x hx hn => ?_)
    · show (fs.drop at_ ++ fs.take at_).length ≤ 3
      rw [List.length_append, List.length_drop, List.length_take]; omega
    · obtain ⟨f, h1, h2⟩ := fe x hx hn
      exact ⟨f, (mm f).mpr h1, h2⟩
end
end Fm

namespace Fm
open PySem PySem.Spec PyProof.Rows L2
/-! ### the law's put -/
def LPutOk (sc : Sc) (bl : Blk) (ts : List Tm) (adds : List (List Prd)) : Prop := ts.length = bl.2.1.length ∧ (∀ t ∈ ts, TmOk (arS sc) t) ∧ adds.length = bl.2.2.length ∧ ∀ ps ∈ adds, ps.length ≤ 4 ∧ ∀ p ∈ ps, PrOk (arS sc) p
def spLPut : Sp := fun vs H Q _ => ∃ (b c ba s : Addr) (bl : Blk) (sc : Sc), vs = [.ref b, .ref ba, .ref s] ∧ Bag H b c ∧ Im H 2 (.ref ba) (dBlk bl) ∧ BlkG bl ∧ ScAt b H s sc ∧ ScOk sc ∧
  ∀ (a : Addr) (ts : List Tm) (adds : List (List Prd)) (H' : Hp), Bag H' b c → Kp [b] H H' → Im H' 6 (.ref a) (dSt (.put bl.1 ts adds)) → LPutOk sc bl ts adds → Q (.ref a) H'
theorem sixB : ∀ n : Nat, n < 6 → ∃ k : Nat, ([V.int 1, V.int 1, V.int 2, V.int 0, V.int 1, V.int 4] : List V)[n]? = some (.int k) ∧ k ≤ 4
  | 0, _ => ⟨1, rfl, by decide⟩
  | 1, _ => ⟨1, rfl, by decide⟩
  | 2, _ => ⟨2, rfl, by decide⟩
  | 3, _ => ⟨0, rfl, by decide⟩
  | 4, _ => ⟨1, rfl, by decide⟩
  | 5, _ => ⟨4, rfl, by decide⟩
  | n + 6, h => absurd h (by omega)
section
variable {P : Program} {w : World} {K : PySem.W.Frag} {mg : Str → Option Value} {base : Heap}
theorem ok_lput (B : Bi mg) (D : Dfn K mg "_law_put" s__law_put ["_law_bag_here", "_law_block", "_law_scope"]) (G_pick : Has P w K mg base CX0 "_law_pick" ["_law_bag_here", "_law_many"] 1 spPick) (G_term : Has P w K mg base CX0 "_law_term" ["_law_bag_here", "_law_scope"] 3 spLTerm) (G_product : Has P w K mg base CX0 "_law_product" ["_law_bag_here", "_law_scope"] 2 spLProduct) : Has P w K mg base CX0 "_law_put" ["_law_bag_here", "_law_block", "_law_scope"] 4 spLPut := by
  refine D.has sc__law_put (fun vs H Q E h => ?_) (fun f cdv A outer s H vs Q E hr h => ?_)
  · obtain ⟨b, c, ba, s, bl, sc, rfl, _⟩ := h; rfl
  · obtain ⟨b, c, ba, s, bl, sc, rfl, BG, ib, bg, SA, ok, k⟩ := h
    have hsz : sizeLine = 16777216 := rfl
    refine ⟨_, (pss_cons (ps_asg (pv 1) (pg_tup rfl (pgs_cons (pg_name (i := 3) sc__law_put.nd rfl (by first | exact Or.inl rfl | exact Or.inr rfl)) (pgs_cons (pg_name (i := 4) sc__law_put.nd rfl (by first | exact Or.inl rfl | exact Or.inr rfl)) (pgs_cons (pg_name (i := 5) sc__law_put.nd rfl (by first | exact Or.inl rfl | exact Or.inr rfl)) pgs_nil)))))
  (pss_cons (ps_set (i := 6) sc__law_put.nd rfl (by first | exact Or.inl rfl | exact Or.inr rfl) (pe_callTy (r := rTupO K) call_tuple_of (by rfl) B.tuple (by decide +kernel) (pa_cons (pe_lc (own := [("_law_key", 10)]) (g := gName 10) (by rfl) sc__law_put.nd (pi_tup (pv 4)) (blkOk_by (own := [("_law_key", 10)]) (N := N__law_put) (sc := defScope s__law_put) (by decide +kernel)) (fun _ _ _ _ _ => (pg_name (i := 10) sc__law_put.nd rfl (by first | exact Or.inl rfl | exact Or.inr rfl))) (fun _ _ _ _ _ => pts_nil) (fun _ _ _ _ _ => (pe_has G_term (hr.mono (by omega)) (pa_cons (pv 0) (pa_cons (pv 2) pa_nil))))) pa_nil)))
  (pss_cons (ps_set (i := 7) sc__law_put.nd rfl (by first | exact Or.inl rfl | exact Or.inr rfl) (pe_lst pa_nil))
  (pss_cons (ps_for PassesOwn.never rfl (pi_tup (pv 5)) (pg_name (i := 8) sc__law_put.nd rfl (by first | exact Or.inl rfl | exact Or.inr rfl))
  (pss_cons (ps_set (i := 9) sc__law_put.nd rfl (by first | exact Or.inl rfl | exact Or.inr rfl) (pe_ix ix_list (pe_lst (pa_cons pe_int (pa_cons pe_int (pa_cons pe_int (pa_cons pe_int (pa_cons pe_int (pa_cons pe_int pa_nil))))))) (pe_has G_pick (hr.mono (by omega)) (pa_cons (pv 0) (pa_cons pe_int pa_nil))) (fun _ _ => rfl)))
  (pss_one (ps_expr (pe_bm PySem.F.plainAttrs_list PySem.F.slot_list_append PySem.F.type_list_append mt_append (pv 7) (pa_cons (pe_callTy (r := rTupO K) call_tuple_of (by rfl) B.tuple (by decide +kernel) (pa_cons (pe_lc (own := [("_law_k", 11)]) (g := gName 11) (by rfl) sc__law_put.nd (pi_range1 rfl B.range (pa_cons (pv 9) pa_nil)) (blkOk_by (own := [("_law_k", 11)]) (N := N__law_put) (sc := defScope s__law_put) (by decide +kernel)) (fun _ _ _ _ _ => (pg_name (i := 11) sc__law_put.nd rfl (by first | exact Or.inl rfl | exact Or.inr rfl))) (fun _ _ _ _ _ => pts_nil) (fun _ _ _ _ _ => (pe_has G_product (hr.mono (by omega)) (pa_cons (pv 0) (pa_cons (pv 2) pa_nil))))) pa_nil)) pa_nil))))))
  (pss_one (ps_ret (pe_tup (pa_cons pe_str (pa_cons (pv 3) (pa_cons (pv 6) (pa_cons (pe_callTy (r := rTupO K) call_tuple_of (by rfl) B.tuple (by decide +kernel) (pa_cons (pv 7) pa_nil)) pa_nil))))))))))), ?_⟩
    obtain ⟨_, ka, sa, eb, hb, hk, hsu⟩ := blk_at ib
    cases eb
    refine ⟨_, rfl, ba, _, rfl, SqT.of hb, rfl, _, _, rfl, _, _, rfl, _, _, rfl, rfl, ?_⟩
    -- the terms
    refine ⟨_, rfl, ka, rfl, ⟨_, SqT.of hk⟩, fun D1 hD1 => ?_⟩
    obtain ⟨D1b, D1c⟩ := BG.new hD1
    have k3 := bg.k3
    have s3 := bg.s3
    refine lc_it (walk_tup (xs := bl.2.1.map V.str)) (fun i H' => Bag H' b c ∧ Kp [b] H H' ∧ ∃ (ts : List Tm) (zs : List V), H' D1 = some (.lst zs) ∧ ImAll H' 1 zs (ts.map dTm) ∧ ts.length = i ∧ ∀ t ∈ ts, TmOk (arS sc) t) ⟨BG.keep0 (Kp.new hD1), (Kp.new hD1), [], [], upd_same, .nil, rfl, fun t h => nomatch h⟩ (fun i H' _ h => SqT.of (h.2.1.tp _ _ hk)) ?_ ?_
    · rintro i u H1 H2 hi ⟨B1, k1, ts, zs, hz, iz, lt, okt⟩ ⟨rfl, hu1⟩
      refine ⟨rfl, _, rfl, _, rfl, b, c, s, sc, rfl, B1, SA.kp k1, ok, fun v tm H3 B3 kk3 iv otm => ?_⟩
      have hz3 := kk3.at_ _ _ hz (by simpa using D1b)
      have lz : zs.length = ts.length := by rw [iz.len, List.length_map]
      have kU : Kp [D1] H3 (upd H3 D1 (.lst (zs ++ [v]))) := Kp.updL hz3 (by simp)
      rw [List.length_map] at hi
      refine ⟨zs, hz3, by show _ < 16777216; omega, B3.keep kU (by simpa using Ne.symm D1b) (by simpa using Ne.symm D1c), (k1.trans kk3).late hD1, ts ++ [tm], _, upd_same, ?_, by simp [lt], fun t ht => ?_⟩
      · rw [List.map_append]
        exact DtAll.append ((iz.kp kk3).kp kU) (.cons (iv.kp kU) .nil)
      · rcases List.mem_append.mp ht with h | h
        · exact okt t h
        · rw [List.mem_singleton.mp h]; exact otm
    rintro H1 ⟨B1, k1, ts, zs, hz, iz, lt, okt⟩
    rw [List.length_map] at lt
    have lz : zs.length = ts.length := by rw [iz.len, List.length_map]
    refine ⟨D1, _, rfl, .inl ⟨SqL.of hz, fun t1 nt1 => ?_⟩⟩
    have q1 : Kp [] H1 (upd H1 t1 (.tup zs)) := Kp.new nt1
    have it1 : Im (upd H1 t1 (.tup zs)) 2 (.ref t1) (.tuple (ts.map dTm)) := im_tup nt1 iz (by omega)
    have B2 := B1.keep0 q1
    have k2 := k1.trans q1.zero
    generalize upd H1 t1 (.tup zs) = H2 at q1 it1 B2 k2
    -- the adds
    refine ⟨by show 0 ≤ sizeLine; decide, fun L hL => ?_⟩
    obtain ⟨Lb, Lc⟩ := B2.new hL
    have kL : Kp [] H2 (upd H2 L (.lst [])) := Kp.new hL
    have hLL : upd H2 L (.lst []) L = some (.lst []) := upd_same
    have B3 := B2.keep0 kL
    have k03 : Kp [b] H (upd H2 L (.lst [])) := k2.trans kL.zero
    have L0 : H L = none := k2.freeB B2 hL
    have it3 := it1.kp kL
    generalize upd H2 L (.lst []) = H3 at kL hLL B3 k03 it3
    refine ⟨_, rfl, sa, rfl, ⟨_, SqT.of (k03.tp _ _ hsu)⟩, ?_⟩
    refine for_it (walk_tup (xs := bl.2.2.map V.str)) (fun i σ H' => (∃ o8 o9 o10 o11 : Option V, σ = [some (.ref b), some (.ref ba), some (.ref s), some (.str bl.1), some (.ref ka), some (.ref sa), some (.ref t1), some (.ref L), o8, o9, o10, o11]) ∧ Bag H' b c ∧ Kp [b] H H' ∧ Im H' 2 (.ref t1) (.tuple (ts.map dTm)) ∧ ∃ (adds : List (List Prd)) (ys : List V), H' L = some (.lst ys) ∧ ImAll H' 4 ys (adds.map dPrs) ∧ adds.length = i ∧ ∀ ps ∈ adds, ps.length ≤ 4 ∧ ∀ p ∈ ps, PrOk (arS sc) p)
      ⟨⟨_, _, _, _, rfl⟩, B3, k03, it3, [], [], hLL, .nil, rfl, fun p h => nomatch h⟩ (fun i σ H' _ h => SqT.of (h.2.2.1.tp _ _ hsu)) ?_ ?_
    · rintro i u σ H5 H4 hi ⟨⟨o8, o9, o10, o11, rfl⟩, B4, k4, it4, adds, ys, hy, iy, la, oka⟩ ⟨rfl, hu1⟩
      rw [List.length_map] at hi
      have ly : ys.length = adds.length := by rw [iy.len, List.length_map]
      refine ⟨by show 6 ≤ sizeLine; decide, fun p6 np6 => ?_⟩
      have m6 : Kp [] H4 _ := Kp.new (o := .lst [.int 1, .int 1, .int 2, .int 0, .int 1, .int 4]) np6
      have p6b := (B4.new np6).1
      refine ⟨_, rfl, b, c, 6, rfl, B4.keep0 m6, by decide, by decide, fun r H6 r0 r1 B6 k6 => ?_⟩
      obtain ⟨kk, hkk, kk4⟩ := sixB r.toNat (by omega)
      refine ⟨p6, _, r, .int kk, rfl, rfl, SqL.of (k6.at_ _ _ upd_same (by simpa using p6b)), atI_of r0 hkk, ?_⟩
      have k46 : Kp [b] H4 H6 := m6.zero.trans k6
      have k06 := k4.trans k46
      have hy6 := k46.at_ _ _ hy (by simpa using Lb)
      refine ⟨_, rfl, .inl ⟨rfl, _, SqL.of hy6⟩, _, rfl, (kk : Int), rfl, by omega, by omega, fun D2 hD2 => ?_⟩
      obtain ⟨D2b, D2c⟩ := B6.new hD2
      refine lc_range (lo := 0) (n := (kk : Int).toNat) (fun j H' => Bag H' b c ∧ Kp [b] H6 H' ∧ ∃ (ps : List Prd) (zs : List V), H' D2 = some (.lst zs) ∧ ImAll H' 3 zs (ps.map dPrd) ∧ ps.length = j ∧ ∀ p ∈ ps, PrOk (arS sc) p) ⟨B6.keep0 (Kp.new hD2), Kp.new hD2, [], [], upd_same, .nil, rfl, fun t h => nomatch h⟩ ?_ ?_
      · rintro j H7 hj ⟨B7, k7, ps, zs, hz, iz, lp, okp⟩
        refine ⟨rfl, _, rfl, _, rfl, b, c, s, sc, rfl, B7, SA.kp (k06.trans k7), ok, fun v p H8 B8 k8 iv op => ?_⟩
        have hz3 := k8.at_ _ _ hz (by simpa using D2b)
        have lz : zs.length = ps.length := by rw [iz.len, List.length_map]
        have kU : Kp [D2] H8 (upd H8 D2 (.lst (zs ++ [v]))) := Kp.updL hz3 (by simp)
        refine ⟨zs, hz3, by show _ < 16777216; omega, B8.keep kU (by simpa using Ne.symm D2b) (by simpa using Ne.symm D2c), (k7.trans k8).late hD2, ps ++ [p], _, upd_same, ?_, by simp [lp], fun t ht => ?_⟩
        · rw [List.map_append]
          exact DtAll.append ((iz.kp k8).kp kU) (.cons (iv.kp kU) .nil)
        · rcases List.mem_append.mp ht with h | h
          · exact okp t h
          · rw [List.mem_singleton.mp h]; exact op
      rintro H7 ⟨B7, k7, ps, zs, hz, iz, lp, okp⟩
      have lz : zs.length = ps.length := by rw [iz.len, List.length_map]
      refine ⟨D2, _, rfl, .inl ⟨SqL.of hz, fun t2 nt2 => ?_⟩⟩
      have q2 : Kp [] H7 (upd H7 t2 (.tup zs)) := Kp.new nt2
      have it2 : Im (upd H7 t2 (.tup zs)) 4 (.ref t2) (dPrs ps) := im_tup nt2 iz (by omega)
      have B8 := B7.keep0 q2
      have k68 := k7.trans q2.zero
      generalize upd H7 t2 (.tup zs) = H8 at q2 it2 B8 k68
      have hy8 := k68.at_ _ _ hy6 (by simpa using Lb)
      have iy8 := (iy.kp k46).kp k68
      have kU : Kp [L] H8 (upd H8 L (.lst (ys ++ [.ref t2]))) := Kp.updL hy8 (by simp)
      refine ⟨L, _, _, rfl, rfl, hy8, by omega, ⟨⟨_, _, _, _, rfl⟩, B8.keep kU (by simpa using Ne.symm Lb) (by simpa using Ne.symm Lc), (k06.trans k68).via kU (by simp [L0]), ((it4.kp k46).kp k68).kp kU, adds ++ [ps], _, upd_same, ?_, by simp [la], fun t ht => ?_⟩⟩
      · rw [List.map_append]
        exact DtAll.append (iy8.kp kU) (.cons (it2.kp kU) .nil)
      · rcases List.mem_append.mp ht with h | h
        · exact oka t h
        · rw [List.mem_singleton.mp h]; exact ⟨by omega, okp⟩
    · rintro σ H4 ⟨⟨o8, o9, o10, o11, rfl⟩, B4, k4, it4, adds, ys, hy, iy, la, oka⟩
      rw [List.length_map] at la
      have ly : ys.length = adds.length := by rw [iy.len, List.length_map]
      refine ⟨_, rfl, _, rfl, _, rfl, L, _, rfl, .inl ⟨SqL.of hy, fun t3 nt3 => ?_⟩⟩
      have q3 : Kp [] H4 (upd H4 t3 (.tup ys)) := Kp.new nt3
      have it5 : Im (upd H4 t3 (.tup ys)) 5 (.ref t3) (dAdds adds) := im_tup nt3 iy (by omega)
      have B5 := B4.keep0 q3
      have it6 := it4.kp q3
      generalize upd H4 t3 (.tup ys) = H5 at q3 it5 B5 it6
      refine ⟨by show 4 ≤ sizeLine; decide, fun q nq => ?_⟩
      have q4 : Kp [] H5 (upd H5 q (.tup [.str "put", .str bl.1, .ref t1, .ref t3])) := Kp.new nq
      refine k q ts adds _ (B5.keep0 q4) (k4.trans (q3.trans q4).zero) ?_ ⟨by omega, okt, by omega, oka⟩
      rw [dSt]
      exact .tup upd_same ⟨by simp, _, upd_same⟩ (.cons (.str _ (by decide)) (.cons (.str _ (Nat.le_trans bg.nm.2.1 (by decide))) (.cons ((it6.kp q4).mono (by decide)) (.cons (it5.kp q4) .nil))))
end
end Fm

namespace Fm
open PySem PySem.Spec PyProof.Rows L2
end Fm

namespace Fm
open PySem PySem.Spec PyProof.Rows L2
theorem len8 {w : Str} (h : IsNm w) : w.length ≤ 1000000 := by have : w.length ≤ 8 := h.2.1; omega
theorem put_std (b : Str) (ts : List Tm) (adds : List (List Prd)) : StD (dSt (.put b ts adds)) (.put b ts adds) := by
  rw [dSt]
  refine .put (es := adds.map fun ps => .tuple (ps.map dPrd)) (.inr rfl) (.inr rfl) ?_
  induction adds with
  | nil => exact .nil
  | cons ps adds ih =>
    refine .cons ⟨ps.map dPrd, .inr rfl, ?_⟩ ih
    clear ih
    induction ps with
    | nil => exact .nil
    | cons p ps ih => exact .cons ⟨_, rfl, .inr rfl⟩ ih
theorem arS_app (a b : Sc) : arS (a ++ b) = arS a ++ arS b := by unfold arS; rw [List.map_append]
theorem arS_none {sc : Sc} {v : Str} (h : v ∉ sc.map (·.1)) : lkA (arS sc) v = none := lkA_noneI fun z => h (by
  unfold arS at z
  rw [List.map_map] at z
  exact z)
end Fm

namespace Fm
open PySem PySem.Spec PyProof.Rows L2
/-! ### _law_opening, also where there is something to read -/
/-- what stands around a body: a loop, or a same -/
inductive Og
  | scan (v t : Str)
  | run (v t f : Str)
  | seek (v t f : Str) (a : Tm)
  | each (v b : Str)
  | rise (v b k : Str)
  | look (v b : Str) (ts : List Tm)
  | same (a b : Tm)
def Og.st : Og → List Stm → Stm
  | .scan v t, b => .scan v t b
  | .run v t f, b => .run v t f b
  | .seek v t f a, b => .seek v t f a b
  | .each v k, b => .each v k b
  | .rise v k f, b => .rise v k f b
  | .look v k ts, b => .look v k ts b
  | .same x y, b => .same x y b
def Og.v : Og → Str
  | .scan v _ => v
  | .run v _ _ => v
  | .seek v _ _ _ => v
  | .each v _ => v
  | .rise v _ _ => v
  | .look v _ _ => v
  | .same _ _ => ""
def Og.dat : Og → List PyData
  | .scan v t => [.str "scan", .str v, .str t]
  | .run v t f => [.str "run", .str v, .str t, .str f]
  | .seek v t f a => [.str "seek", .str v, .str t, .str f, dTm a]
  | .each v b => [.str "each", .str v, .str b]
  | .rise v b k => [.str "rise", .str v, .str b, .str k]
  | .look v b ts => [.str "look", .str v, .str b, .tuple (ts.map dTm)]
  | .same a b => [.str "same", dTm a, dTm b]
/-- right, with these fields and sums -/
def Og.ok (tbs : List (Str × List Str)) (rd : List Blk) (ar : Ar) (fs ss : List Str) : Og → Prop
  | .scan _ t => (t, fs) ∈ tbs ∧ ss = []
  | .run _ t f => (t, fs) ∈ tbs ∧ ss = [] ∧ f ∈ fs
  | .seek _ t f a => (t, fs) ∈ tbs ∧ ss = [] ∧ f ∈ fs ∧ TmOk ar a
  | .each _ b => (b, fs, ss) ∈ rd
  | .rise _ b k => (b, fs, ss) ∈ rd ∧ k ∈ fs
  | .look _ b ts => (b, fs, ss) ∈ rd ∧ ts.length = fs.length ∧ ∀ t ∈ ts, TmOk ar t
  | .same _ _ => False
def spOpeningG : Sp := fun vs H Q _ => ∃ (b c t r s : Addr) (xs rs : List V) (tbs : List (Str × List Str)) (rd : List Blk) (sc : Sc), vs = [.ref b, .ref t, .ref r, .ref s] ∧ Bag H b c ∧ H t = some (.lst xs) ∧ t ≠ b ∧ ImAll H 2 xs (tbs.map dTab) ∧ GoodTs tbs ∧ H r = some (.lst rs) ∧ r ≠ b ∧ ImAll H 2 rs (rd.map dBlk) ∧ (∀ x ∈ rd, BlkG x) ∧ rd.length ≤ 20 ∧ ScAt b H s sc ∧ ScOk sc ∧ sc.length ≤ 20 ∧
  ∀ (a pa ea : Addr) (o : Og) (fs ss : List Str) (H' : Hp), Bag H' b c → Kp [b] H H' → H' a = some (.tup [.ref pa, .ref ea]) → Im H' 3 (.ref pa) (.tuple o.dat) → Im H' 2 (.ref ea) (dBlk (o.v, fs, ss)) → IsNm o.v → o.v ∉ sc.map (·.1) → o.ok tbs rd (arS sc) fs ss → Q (.ref a) H'
section
variable {P : Program} {w : World} {K : PySem.W.Frag} {mg : Str → Option Value} {base : Heap}
theorem ok_openingG (B : Bi mg) (D : Dfn K mg "_law_opening" s__law_opening ["_law_bag_here", "_law_tables_here", "_law_readable", "_law_scope"]) (G_pick : Has P w K mg base CX0 "_law_pick" ["_law_bag_here", "_law_many"] 1 spPick) (G_name : Has P w K mg base CX0 "_law_name" ["_law_bag_here", "_law_taken"] 2 spName) (G_term : Has P w K mg base CX0 "_law_term" ["_law_bag_here", "_law_scope"] 3 spLTerm) : Has P w K mg base CX0 "_law_opening" ["_law_bag_here", "_law_tables_here", "_law_readable", "_law_scope"] 4 spOpeningG := by
  refine D.has sc__law_opening (fun vs H Q E h => ?_) (fun f cdv A outer s0 H vs Q E hr h => ?_)
  · obtain ⟨b, c, t, r, s, xs, rs, tbs, rd, sc, rfl, _⟩ := h; rfl
  · obtain ⟨b, c, t, r, s, xs, rs, tbs, rd, sc, rfl, BG, ht, tb, ix, g, hrd, rb, ird, grd, lrd, SA, ok, l20, k⟩ := h
    have l1 := g.2.2.1
    refine ⟨_, (pss_cons (ps_set (i := 4) sc__law_opening.nd rfl (by first | exact Or.inl rfl | exact Or.inr rfl) (pe_has G_name (hr.mono (by omega)) (pa_cons (pv 0) (pa_cons (pe_lc (own := [("_law_entry", 11)]) (g := gName 11) (by rfl) sc__law_opening.nd (pi_list (pv 3)) (blkOk_by (own := [("_law_entry", 11)]) (N := N__law_opening) (sc := defScope s__law_opening) (by decide +kernel)) (fun _ _ _ _ _ => (pg_name (i := 11) sc__law_opening.nd rfl (by first | exact Or.inl rfl | exact Or.inr rfl))) (fun _ _ _ _ _ => pts_nil) (fun _ _ _ _ _ => (pe_ix (r := rIxT K) ix_tup (pv 11) pe_int (fun _ _ => rfl)))) pa_nil))))
  (pss_cons (ps_set (i := 5) sc__law_opening.nd rfl (by first | exact Or.inl rfl | exact Or.inr rfl) (pe_has G_pick (hr.mono (by omega)) (pa_cons (pv 0) (pa_cons pe_int pa_nil))))
  (pss_cons (ps_if (PW.pt (pw_or (pt_cmpR op_lt (pv 5) pe_int (nomark _)) (pw_or1 (pt_cmpR op_eq (pe_callB call_len (by rfl) B.len PySem.boot_len (pa_cons (pv 2) pa_nil)) pe_int (nomark _)))))
  (pss_cons (ps_asg (pe_ix ix_list (pv 1) (pe_has G_pick (hr.mono (by omega)) (pa_cons (pv 0) (pa_cons (pe_callB call_len (by rfl) B.len PySem.boot_len (pa_cons (pv 1) pa_nil)) pa_nil))) (fun _ _ => rfl)) (pg_tup rfl (pgs_cons (pg_name (i := 6) sc__law_opening.nd rfl (by first | exact Or.inl rfl | exact Or.inr rfl)) (pgs_cons (pg_name (i := 7) sc__law_opening.nd rfl (by first | exact Or.inl rfl | exact Or.inr rfl)) pgs_nil))))
  (pss_cons (ps_set (i := 8) sc__law_opening.nd rfl (by first | exact Or.inl rfl | exact Or.inr rfl) (pe_ix (r := rIxT K) ix_tup (pv 7) (pe_has G_pick (hr.mono (by omega)) (pa_cons (pv 0) (pa_cons (pe_callB call_len (by rfl) B.len PySem.boot_len (pa_cons (pv 7) pa_nil)) pa_nil))) (fun _ _ => rfl)))
  (pss_cons (ps_if (PW.pt (pw_or (pt_cmpR op_eq (pv 5) pe_int (nomark _)) (pw_or1 (pt_cmpR op_eq (pv 5) pe_int (nomark _)))))
  (pss_one (ps_ret (pe_tup (pa_cons (pe_tup (pa_cons pe_str (pa_cons (pv 4) (pa_cons (pv 6) (pa_cons (pv 8) pa_nil))))) (pa_cons (pe_tup (pa_cons (pv 4) (pa_cons (pv 7) (pa_cons (pe_tup pa_nil) pa_nil)))) pa_nil)))))
  pss_nil)
  (pss_cons (ps_if (PW.pt (pw_or (pt_cmpR op_eq (pv 5) pe_int (nomark _)) (pw_or1 (pt_cmpR op_eq (pv 5) pe_int (nomark _)))))
  (pss_one (ps_ret (pe_tup (pa_cons (pe_tup (pa_cons pe_str (pa_cons (pv 4) (pa_cons (pv 6) (pa_cons (pv 8) (pa_cons (pe_has G_term (hr.mono (by omega)) (pa_cons (pv 0) (pa_cons (pv 3) pa_nil))) pa_nil)))))) (pa_cons (pe_tup (pa_cons (pv 4) (pa_cons (pv 7) (pa_cons (pe_tup pa_nil) pa_nil)))) pa_nil)))))
  pss_nil)
  (pss_one (ps_ret (pe_tup (pa_cons (pe_tup (pa_cons pe_str (pa_cons (pv 4) (pa_cons (pv 6) pa_nil)))) (pa_cons (pe_tup (pa_cons (pv 4) (pa_cons (pv 7) (pa_cons (pe_tup pa_nil) pa_nil)))) pa_nil)))))))))
  pss_nil)
  (pss_cons (ps_asg (pe_ix ix_list (pv 2) (pe_has G_pick (hr.mono (by omega)) (pa_cons (pv 0) (pa_cons (pe_callB call_len (by rfl) B.len PySem.boot_len (pa_cons (pv 2) pa_nil)) pa_nil))) (fun _ _ => rfl)) (pg_tup rfl (pgs_cons (pg_name (i := 6) sc__law_opening.nd rfl (by first | exact Or.inl rfl | exact Or.inr rfl)) (pgs_cons (pg_name (i := 9) sc__law_opening.nd rfl (by first | exact Or.inl rfl | exact Or.inr rfl)) (pgs_cons (pg_name (i := 10) sc__law_opening.nd rfl (by first | exact Or.inl rfl | exact Or.inr rfl)) pgs_nil)))))
  (pss_cons (ps_if (pt_cmpR op_eq (pv 5) pe_int (nomark _))
  (pss_one (ps_ret (pe_tup (pa_cons (pe_tup (pa_cons pe_str (pa_cons (pv 4) (pa_cons (pv 6) (pa_cons (pe_callTy (r := rTupO K) call_tuple_of (by rfl) B.tuple (by decide +kernel) (pa_cons (pe_lc (own := [("_law_key", 12)]) (g := gName 12) (by rfl) sc__law_opening.nd (pi_tup (pv 9)) (blkOk_by (own := [("_law_key", 12)]) (N := N__law_opening) (sc := defScope s__law_opening) (by decide +kernel)) (fun _ _ _ _ _ => (pg_name (i := 12) sc__law_opening.nd rfl (by first | exact Or.inl rfl | exact Or.inr rfl))) (fun _ _ _ _ _ => pts_nil) (fun _ _ _ _ _ => (pe_has G_term (hr.mono (by omega)) (pa_cons (pv 0) (pa_cons (pv 3) pa_nil))))) pa_nil)) pa_nil))))) (pa_cons (pe_tup (pa_cons (pv 4) (pa_cons (pv 9) (pa_cons (pv 10) pa_nil)))) pa_nil)))))
  pss_nil)
  (pss_cons (ps_if (PW.pt (pw_and (pt_cmpR op_eq (pv 5) pe_int (nomark _)) (pw_and1 (pt_cmpR op_gt (pe_callB call_len (by rfl) B.len PySem.boot_len (pa_cons (pv 9) pa_nil)) pe_int (nomark _)))))
  (pss_one (ps_ret (pe_tup (pa_cons (pe_tup (pa_cons pe_str (pa_cons (pv 4) (pa_cons (pv 6) (pa_cons (pe_ix (r := rIxT K) ix_tup (pv 9) (pe_has G_pick (hr.mono (by omega)) (pa_cons (pv 0) (pa_cons (pe_callB call_len (by rfl) B.len PySem.boot_len (pa_cons (pv 9) pa_nil)) pa_nil))) (fun _ _ => rfl)) pa_nil))))) (pa_cons (pe_tup (pa_cons (pv 4) (pa_cons (pv 9) (pa_cons (pv 10) pa_nil)))) pa_nil)))))
  pss_nil)
  (pss_one (ps_ret (pe_tup (pa_cons (pe_tup (pa_cons pe_str (pa_cons (pv 4) (pa_cons (pv 6) pa_nil)))) (pa_cons (pe_tup (pa_cons (pv 4) (pa_cons (pv 9) (pa_cons (pv 10) pa_nil)))) pa_nil))))))))))), ?_⟩
    have hsz : sizeLine = 16777216 := rfl
    obtain ⟨sb, ss, hss, iss⟩ := id SA
    have lss : ss.length = sc.length := by rw [iss.len, List.length_map]
    refine ⟨_, rfl, _, rfl, s, rfl, ⟨_, SqL.of hss⟩, fun D hD => ?_⟩
    obtain ⟨Db, Dc⟩ := BG.new hD
    refine lc_it (walk_list (xs := ss)) (fun i H' => H' D = some (.lst (((sc.map (·.1)).take i).map V.str)) ∧ Kp [] H H') ⟨upd_same, Kp.new hD⟩ (fun i H' _ h => SqL.of (h.2.at_ _ _ hss fun z => nomatch z)) ?_ ?_
    · rintro i u H1 H2 hi ⟨hD1, k1⟩ ⟨rfl, hu1⟩
      have hi : i < ss.length := hi
      obtain ⟨x, hx⟩ : ∃ x, sc[i]? = some x := ⟨_, List.getElem?_eq_getElem (by omega)⟩
      obtain ⟨a, f1, s1, hv, h1, h2, h3⟩ := sc_at iss hx
      have hu1 : ss[i]? = some u := hu1
      rw [hv] at hu1
      cases hu1
      have hxn : (sc.map (·.1))[i]? = some x.1 := by rw [List.getElem?_map, hx]; rfl
      refine ⟨rfl, _, rfl, a, _, 0, .str x.1, rfl, rfl, SqT.of (k1.tp _ _ h1), at0, _, hD1, by rw [List.length_map, List.length_take]; omega, ?_, k1.late hD⟩
      rw [upd_same, take_snoc hxn, List.map_append]; rfl
    rintro H1 ⟨hD1, k1⟩
    rw [List.take_of_length_le (by rw [List.length_map]; omega)] at hD1
    refine ⟨b, c, D, _, rfl, BG.keep0 k1, hD1, Db, Dc, by rw [List.length_map]; omega, fun v H2 nv nnv BG2 hD2 k2 => ?_⟩
    have k02 : Kp [b] H H2 := k1.zero.viaM k2 fun x hx => by
      rcases List.mem_cons.mp hx with rfl | hx
      · exact .inl (by simp)
      · exact .inr (by rw [List.mem_singleton.mp hx]; exact hD)
    refine ⟨_, rfl, b, c, 6, rfl, BG2, by decide, by decide, fun r6 H3 r60 r61 BG3 k3 => ?_⟩
    have k03 := k02.trans k3
    have ht3 := k03.at_ _ _ ht (by simpa using tb)
    have hr3 := k03.at_ _ _ hrd (by simpa using rb)
    have ix3 := ImAll.kp k03 ix
    have lxs : xs.length = tbs.length := by rw [ix.len, List.length_map]
    have lv : v.length ≤ 1000000 := len8 nv
    have lrs : rs.length = rd.length := by rw [ird.len, List.length_map]
    refine ⟨_, rfl, _, _, rfl, rfl, _, rfl, ite2 (fun _ => iteT ?_) (fun _ => ⟨_, rfl, _, _, rfl, .inl ⟨_, SqL.of hr3, rfl⟩, rfl, _, rfl, ite2 (fun _ => ?_) (fun hne => ?_)⟩)⟩
    rotate_left 2
    · have nr : rs.length ≠ 0 := fun z => hne (by rw [z]; rfl)
      refine ⟨_, rfl, _, rfl, _, rfl, _, _, rfl, .inl ⟨_, SqL.of hr3, rfl⟩, b, c, _, rfl, BG3, by omega, by omega, fun r7 H4 r70 r71 BG4 k4 => ?_⟩
      obtain ⟨x, hx⟩ : ∃ x, rd[r7.toNat]? = some x := ⟨_, List.getElem?_eq_getElem (by omega)⟩
      have mx := List.mem_of_getElem? hx
      have bx := grd x mx
      obtain ⟨a, f1, s1, hv, h1, h2, h3⟩ := sc_at (ImAll.kp (k03.trans k4) ird) hx
      refine ⟨r, _, r7, .ref a, rfl, rfl, SqL.of ((k03.trans k4).at_ _ _ hrd (by simpa using rb)), atI_of r70 hv, ?_⟩
      refine ⟨a, _, rfl, SqT.of h1, rfl, _, _, rfl, _, _, rfl, _, _, rfl, rfl, ?_⟩
      have k04 := k03.trans k4
      have lb8 : x.1.length ≤ 1000000 := len8 bx.nm
      have k3' : x.2.1.length ≤ 3 := bx.k3
      have s3' : x.2.2.length ≤ 3 := bx.s3
      have fin : ∀ (o : Og) (G : Hp) (pa : Addr), o.v = v → o.ok tbs rd (arS sc) x.2.1 x.2.2 → Bag G b c → Kp [b] H G → Im G 3 (.ref pa) (.tuple o.dat) → G f1 = some (.tup (x.2.1.map V.str)) → G s1 = some (.tup (x.2.2.map V.str)) → ∀ p2, G p2 = none → ∀ p3, upd G p2 (.tup [.str v, .ref f1, .ref s1]) p3 = none → Q (.ref p3) (upd (upd G p2 (.tup [.str v, .ref f1, .ref s1])) p3 (.tup [.ref pa, .ref p2])) := by
        intro o G pa ev ef BGg kg ip hfg hsg p2 hp2 p3 hp3
        have q2 : Kp [] G (upd G p2 (.tup [.str v, .ref f1, .ref s1])) := Kp.new hp2
        have e2 : upd G p2 (.tup [.str v, .ref f1, .ref s1]) p2 = some (.tup [.str v, .ref f1, .ref s1]) := upd_same
        generalize upd G p2 (.tup [.str v, .ref f1, .ref s1]) = G2 at *
        have q3 : Kp [] G2 (upd G2 p3 (.tup [.ref pa, .ref p2])) := Kp.new hp3
        have e3 : upd G2 p3 (.tup [.ref pa, .ref p2]) p3 = some (.tup [.ref pa, .ref p2]) := upd_same
        generalize upd G2 p3 (.tup [.ref pa, .ref p2]) = G3 at *
        have q := q2.trans q3
        have hf3 := q.tp _ _ hfg
        have hs3 := q.tp _ _ hsg
        have h23 := q3.tp _ _ e2
        refine k p3 pa p2 o x.2.1 x.2.2 G3 (BGg.keep0 q) (kg.trans q.zero) e3 (Im.kp q ip) ?_ (by rw [ev]; exact nv) (by rw [ev]; exact nnv) ef
        rw [ev]
        exact .tup h23 ⟨by simp, ⟨_, h23⟩⟩ (.cons (.str _ lv) (.cons (.tup hf3 ⟨by rw [List.length_map]; omega, ⟨_, hf3⟩⟩ (dtAll_strs (fun w hw => len8 (bx.nms w (List.mem_append_left _ hw))))) (.cons (.tup hs3 ⟨by rw [List.length_map]; omega, ⟨_, hs3⟩⟩ (dtAll_strs (fun w hw => len8 (bx.nms w (List.mem_append_right _ hw))))) .nil)))
      refine ⟨_, rfl, rfl, _, rfl, ite2 (fun _ => ?_) (fun _ => ?_)⟩
      · refine ⟨_, rfl, _, rfl, _, rfl, f1, rfl, ⟨_, SqT.of h2⟩, fun D2 hD2 => ?_⟩
        obtain ⟨D2b, D2c⟩ := BG4.new hD2
        refine lc_it (walk_tup (xs := x.2.1.map V.str)) (fun j H' => ∃ (vs : List V) (ts : List Tm), H' D2 = some (.lst vs) ∧ ImAll H' 1 vs (ts.map dTm) ∧ ts.length = j ∧ (∀ t ∈ ts, TmOk (arS sc) t) ∧ Bag H' b c ∧ Kp [b] H4 H') ⟨[], [], upd_same, .nil, rfl, (fun t h => nomatch h), BG4.keep0 (Kp.new hD2), Kp.new hD2⟩ (fun j H' _ h => by
          obtain ⟨_, _, _, _, _, _, _, k⟩ := h
          exact SqT.of (k.tp _ _ h2)) ?_ ?_
        · rintro j u Ha Hb hj ⟨vs, ts, hD3, ivs, lts, tok, Ba, ka⟩ ⟨rfl, _⟩
          have hj : j < (x.2.1.map V.str).length := hj
          rw [List.length_map] at hj
          have lvs : vs.length = j := by rw [ivs.len, List.length_map, lts]
          refine ⟨rfl, _, rfl, _, rfl, b, c, s, sc, rfl, Ba, SA.kp (k04.trans ka), ok, fun vt tm Hc Bc kc it tk => ?_⟩
          have hDc := kc.at_ _ _ hD3 (by simpa using D2b)
          have kD : Kp [D2] Hc (upd Hc D2 (.lst (vs ++ [vt]))) := Kp.updL hDc (by simp)
          refine ⟨vs, hDc, by omega, vs ++ [vt], ts ++ [tm], upd_same, ?_, by simp [lts], fun t ht => ?_, Bc.keep kD (by simpa using Ne.symm D2b) (by simpa using Ne.symm D2c), (ka.trans kc).late hD2⟩
          · rw [List.map_append]
            exact DtAll.append (ImAll.kp kD (ImAll.kp kc ivs)) (.cons (Im.kp kD it) .nil)
          · rcases List.mem_append.mp ht with h | h
            · exact tok t h
            · rw [List.mem_singleton.mp h]; exact tk
        · rintro Ha ⟨vs, ts, hD3, ivs, lts, tok, Ba, ka⟩
          rw [List.length_map] at lts
          have lvs : vs.length = x.2.1.length := by rw [ivs.len, List.length_map, lts]
          refine ⟨D2, _, rfl, .inl ⟨SqL.of hD3, fun c3 hc3 => ?_⟩⟩
          have q1 : Kp [] Ha (upd Ha c3 (.tup vs)) := Kp.new hc3
          have e1 : upd Ha c3 (.tup vs) c3 = some (.tup vs) := upd_same
          generalize upd Ha c3 (.tup vs) = Hb at q1 e1 ⊢
          refine ⟨by show 4 ≤ sizeLine; decide, fun p1 hp1 => ⟨_, rfl, _, rfl, _, rfl, by show 3 ≤ sizeLine; decide, fun p2 hp2 => ⟨by show 2 ≤ sizeLine; decide, fun p3 hp3 => ?_⟩⟩⟩
          have q2 : Kp [] Hb (upd Hb p1 (.tup [.str "look", .str v, .str x.1, .ref c3])) := Kp.new hp1
          have q12 := q1.trans q2
          have e12 := q2.tp _ _ e1
          exact fin (.look v x.1 ts) _ p1 rfl ⟨mx, lts, tok⟩ (Ba.keep0 q12) ((k04.trans ka).trans q12.zero) (.tup upd_same ⟨by simp, ⟨_, upd_same⟩⟩ (.cons (.str _ (by decide)) (.cons (.str _ lv) (.cons (.str _ lb8) (.cons (.tup e12 ⟨by omega, ⟨_, e12⟩⟩ (ImAll.kp q12 ivs)) .nil))))) (q12.tp _ _ (ka.tp _ _ h2)) (q12.tp _ _ (ka.tp _ _ h3)) p2 hp2 p3 hp3
      · have each : ∀ p1, H4 p1 = none → ∀ p2, upd H4 p1 (.tup [.str "each", .str v, .str x.1]) p2 = none → ∀ p3, upd (upd H4 p1 (.tup [.str "each", .str v, .str x.1])) p2 (.tup [.str v, .ref f1, .ref s1]) p3 = none → Q (.ref p3) (upd (upd (upd H4 p1 (.tup [.str "each", .str v, .str x.1])) p2 (.tup [.str v, .ref f1, .ref s1])) p3 (.tup [.ref p1, .ref p2])) := fun p1 hp1 p2 hp2 p3 hp3 => by
          have q1 : Kp [] H4 (upd H4 p1 (.tup [.str "each", .str v, .str x.1])) := Kp.new hp1
          exact fin (.each v x.1) _ p1 rfl mx (BG4.keep0 q1) (k04.trans q1.zero) (.tup upd_same ⟨by simp, ⟨_, upd_same⟩⟩ (.cons (.str _ (by decide)) (.cons (.str _ lv) (.cons (.str _ lb8) .nil)))) (q1.tp _ _ h2) (q1.tp _ _ h3) p2 hp2 p3 hp3
        refine ⟨_, rfl, rfl, _, rfl, ite2 (fun _ => ⟨_, rfl, _, _, rfl, .inr ⟨_, SqT.of h2, rfl⟩, _, _, rfl, rfl, _, rfl, ite2 (fun hk => ?_) (fun _ => ?_)⟩) (fun _ => iteF ?_)⟩
        rotate_left 1
        · exact ⟨_, rfl, _, rfl, by show 3 ≤ sizeLine; decide, fun p1 hp1 => ⟨_, rfl, _, rfl, _, rfl, by show 3 ≤ sizeLine; decide, fun p2 hp2 => ⟨by show 2 ≤ sizeLine; decide, fun p3 hp3 => each p1 hp1 p2 hp2 p3 hp3⟩⟩⟩
        · exact ⟨_, rfl, _, rfl, by show 3 ≤ sizeLine; decide, fun p1 hp1 => ⟨_, rfl, _, rfl, _, rfl, by show 3 ≤ sizeLine; decide, fun p2 hp2 => ⟨by show 2 ≤ sizeLine; decide, fun p3 hp3 => each p1 hp1 p2 hp2 p3 hp3⟩⟩⟩
        have hk0 : 0 < x.2.1.length := by have := of_decide_eq_true hk; rw [List.length_map] at this; omega
        refine ⟨_, rfl, _, rfl, _, rfl, _, rfl, _, rfl, _, _, rfl, .inr ⟨_, SqT.of h2, rfl⟩, b, c, _, rfl, BG4, by rw [List.length_map]; omega, by rw [List.length_map]; omega, fun r8 H5 r80 r81 BG5 k5 => ?_⟩
        rw [List.length_map] at r81
        obtain ⟨fl, hfle⟩ : ∃ fl, x.2.1[r8.toNat]? = some fl := ⟨_, List.getElem?_eq_getElem (by omega)⟩
        have hfl : fl ∈ x.2.1 := List.mem_of_getElem? hfle
        have lfl : fl.length ≤ 1000000 := len8 (bx.nms fl (List.mem_append_left _ hfl))
        refine ⟨f1, _, r8, .str fl, rfl, rfl, SqT.of (k5.tp _ _ h2), atI_of r80 (by rw [List.getElem?_map, hfle]; rfl), by show 4 ≤ sizeLine; decide, fun p1 hp1 => ⟨_, rfl, _, rfl, _, rfl, by show 3 ≤ sizeLine; decide, fun p2 hp2 => ⟨by show 2 ≤ sizeLine; decide, fun p3 hp3 => ?_⟩⟩⟩
        have q1 : Kp [] H5 (upd H5 p1 (.tup [.str "rise", .str v, .str x.1, .str fl])) := Kp.new hp1
        exact fin (.rise v x.1 fl) _ p1 rfl ⟨mx, hfl⟩ (BG5.keep0 q1) ((k04.trans k5).trans q1.zero) (.tup upd_same ⟨by simp, ⟨_, upd_same⟩⟩ (.cons (.str _ (by decide)) (.cons (.str _ lv) (.cons (.str _ lb8) (.cons (.str _ lfl) .nil))))) (q1.tp _ _ (k5.tp _ _ h2)) (q1.tp _ _ (k5.tp _ _ h3)) p2 hp2 p3 hp3
    all_goals
      refine ⟨_, rfl, _, rfl, _, rfl, _, _, rfl, .inl ⟨_, SqL.of ht3, rfl⟩, b, c, _, rfl, BG3, by omega, by have := g.2.2.2; omega, fun r7 H4 r70 r71 BG4 k4 => ?_⟩
      obtain ⟨tt, htt⟩ : ∃ tt, tbs[r7.toNat]? = some tt := ⟨_, List.getElem?_eq_getElem (by omega)⟩
      have gt := g.1 tt (List.mem_of_getElem? htt)
      have lt : tt.1.length ≤ 1000000 := len8 gt.1
      have hlk : lkA tbs tt.1 = some tt.2 := lkA_ofI g.2.1 (List.mem_of_getElem? htt)
      have hu : xs[r7.toNat]? = some xs[r7.toNat] := List.getElem?_eq_getElem (by omega)
      obtain ⟨a, fa, tt', e1, htt', ha4, hfa4⟩ := tab_at' ix (k03.trans k4) hu
      rw [htt] at htt'
      cases htt'
      refine ⟨t, _, r7, .ref a, rfl, rfl, SqL.of ((k03.trans k4).at_ _ _ ht (by simpa using tb)), atI_of r70 (by rw [hu, e1]), ?_⟩
      refine ⟨a, _, rfl, SqT.of ha4, rfl, _, _, rfl, _, _, rfl, rfl, ?_⟩
      refine ⟨_, rfl, _, rfl, _, rfl, _, _, rfl, .inr ⟨_, SqT.of hfa4, rfl⟩, b, c, _, rfl, BG4, by rw [List.length_map]; have := gt.2.2.2.1; omega, by rw [List.length_map]; have : tt.2.length ≤ 4 := gt.2.2.2.2; omega, fun r8 H5 r80 r81 BG5 k5 => ?_⟩
      rw [List.length_map] at r81
      obtain ⟨fl, hfle⟩ : ∃ fl, tt.2[r8.toNat]? = some fl := ⟨_, List.getElem?_eq_getElem (by omega)⟩
      have hfl : fl ∈ tt.2 := List.mem_of_getElem? hfle
      have hfa5 := k5.tp _ _ hfa4
      have k05 := (k03.trans k4).trans k5
      have lfl : fl.length ≤ 1000000 := len8 (gt.2.1 fl hfl)
      refine ⟨fa, _, r8, .str fl, rfl, rfl, SqT.of hfa5, atI_of r80 (by rw [List.getElem?_map, hfle]; rfl), ?_⟩
      have mtt := List.mem_of_getElem? htt
      have fin : ∀ (o : Og) (G : Hp) (pa : Addr), o.v = v → o.ok tbs rd (arS sc) tt.2 [] → Bag G b c → Kp [b] H G → Im G 3 (.ref pa) (.tuple o.dat) → G fa = some (.tup (tt.2.map V.str)) → ∀ p0, G p0 = none → ∀ p2, upd G p0 (.tup []) p2 = none → ∀ p3, upd (upd G p0 (.tup [])) p2 (.tup [.str v, .ref fa, .ref p0]) p3 = none → Q (.ref p3) (upd (upd (upd G p0 (.tup [])) p2 (.tup [.str v, .ref fa, .ref p0])) p3 (.tup [.ref pa, .ref p2])) := by
        intro o G pa ev ef BGg kg ip hfg p0 hp0 p2 hp2 p3 hp3
        have q1 : Kp [] G (upd G p0 (.tup [])) := Kp.new hp0
        have e0 : upd G p0 (.tup []) p0 = some (.tup []) := upd_same
        generalize upd G p0 (.tup []) = G1 at *
        have q2 : Kp [] G1 (upd G1 p2 (.tup [.str v, .ref fa, .ref p0])) := Kp.new hp2
        have e2 : upd G1 p2 (.tup [.str v, .ref fa, .ref p0]) p2 = some (.tup [.str v, .ref fa, .ref p0]) := upd_same
        generalize upd G1 p2 (.tup [.str v, .ref fa, .ref p0]) = G2 at *
        have q3 : Kp [] G2 (upd G2 p3 (.tup [.ref pa, .ref p2])) := Kp.new hp3
        have e3 : upd G2 p3 (.tup [.ref pa, .ref p2]) p3 = some (.tup [.ref pa, .ref p2]) := upd_same
        generalize upd G2 p3 (.tup [.ref pa, .ref p2]) = G3 at *
        have q := q1.trans (q2.trans q3)
        have hf3 := q.tp _ _ hfg
        have h03 := (q2.trans q3).tp _ _ e0
        have h23 := q3.tp _ _ e2
        refine k p3 pa p2 o tt.2 [] G3 (BGg.keep0 q) (kg.trans q.zero) e3 (Im.kp q ip) ?_ (by rw [ev]; exact nv) (by rw [ev]; exact nnv) ef
        rw [ev]
        exact .tup h23 ⟨by simp, ⟨_, h23⟩⟩ (.cons (.str _ lv) (.cons (.tup hf3 ⟨by rw [List.length_map]; have : tt.2.length ≤ 4 := gt.2.2.2.2; omega, ⟨_, hf3⟩⟩ (dtAll_strs (fun w hw => len8 (gt.2.1 w hw)))) (.cons (.tup h03 ⟨by simp, ⟨_, h03⟩⟩ .nil) .nil)))
      refine ⟨_, rfl, rfl, _, rfl, ite2 (fun _ => iteT ?_) (fun _ => ⟨_, rfl, rfl, _, rfl, ite2 (fun _ => ?_) (fun _ => ?_)⟩)⟩
      rotate_left 2
      · refine ⟨_, rfl, rfl, _, rfl, ite2 (fun _ => iteT ?_) (fun _ => ⟨_, rfl, rfl, _, rfl, ite2 (fun _ => ?_) (fun _ => ?_)⟩)⟩
        rotate_left 2
        · refine ⟨_, rfl, _, rfl, by show 3 ≤ sizeLine; decide, fun p1 hp1 => ⟨_, rfl, _, rfl, by show 0 ≤ sizeLine; decide, fun p0 hp0 => ⟨by show 3 ≤ sizeLine; decide, fun p2 hp2 => ⟨by show 2 ≤ sizeLine; decide, fun p3 hp3 => ?_⟩⟩⟩⟩
          have q1 : Kp [] H5 (upd H5 p1 (.tup [.str "scan", .str v, .str tt.1])) := Kp.new hp1
          exact fin (.scan v tt.1) _ p1 rfl ⟨mtt, rfl⟩ (BG5.keep0 q1) (k05.trans q1.zero) (.tup upd_same ⟨by simp, ⟨_, upd_same⟩⟩ (.cons (.str _ (by decide)) (.cons (.str _ lv) (.cons (.str _ lt) .nil)))) (q1.tp _ _ hfa5) p0 hp0 p2 hp2 p3 hp3
        all_goals
          refine ⟨_, rfl, _, rfl, _, rfl, _, rfl, _, rfl, b, c, s, sc, rfl, BG5, SA.kp k05, ok, fun vt tm H6 BG6 k6 it tok => ⟨by show 5 ≤ sizeLine; decide, fun p1 hp1 => ⟨_, rfl, _, rfl, by show 0 ≤ sizeLine; decide, fun p0 hp0 => ⟨by show 3 ≤ sizeLine; decide, fun p2 hp2 => ⟨by show 2 ≤ sizeLine; decide, fun p3 hp3 => ?_⟩⟩⟩⟩⟩
          have q1 : Kp [] H6 (upd H6 p1 (.tup [.str "seek", .str v, .str tt.1, .str fl, vt])) := Kp.new hp1
          exact fin (.seek v tt.1 fl tm) _ p1 rfl ⟨mtt, rfl, hfl, tok⟩ (BG6.keep0 q1) ((k05.trans k6).trans q1.zero) (.tup upd_same ⟨by simp, ⟨_, upd_same⟩⟩ (.cons (.str _ (by decide)) (.cons (.str _ lv) (.cons (.str _ lt) (.cons (.str _ lfl) (.cons ((Im.kp q1 it).mono (by decide)) .nil)))))) (q1.tp _ _ (k6.tp _ _ hfa5)) p0 hp0 p2 hp2 p3 hp3
      all_goals
          refine ⟨_, rfl, _, rfl, _, rfl, by show 4 ≤ sizeLine; decide, fun p1 hp1 => ⟨_, rfl, _, rfl, by show 0 ≤ sizeLine; decide, fun p0 hp0 => ⟨by show 3 ≤ sizeLine; decide, fun p2 hp2 => ⟨by show 2 ≤ sizeLine; decide, fun p3 hp3 => ?_⟩⟩⟩⟩
          have q1 : Kp [] H5 (upd H5 p1 (.tup [.str "run", .str v, .str tt.1, .str fl])) := Kp.new hp1
          exact fin (.run v tt.1 fl) _ p1 rfl ⟨mtt, rfl, hfl⟩ (BG5.keep0 q1) (k05.trans q1.zero) (.tup upd_same ⟨by simp, ⟨_, upd_same⟩⟩ (.cons (.str _ (by decide)) (.cons (.str _ lv) (.cons (.str _ lt) (.cons (.str _ lfl) .nil))))) (q1.tp _ _ hfa5) p0 hp0 p2 hp2 p3 hp3
end
end Fm

namespace Fm
open PySem PySem.Spec PyProof.Rows L2
/-! ### plain: top statements as the law draws them -/
theorem og_lts {φ : Str → Str} {ds : List PyData} {bd : List Stm} (hφ : ∀ b, φ b = b) (h : LtDs φ ds bd) (o : Og) : LtD φ (.tuple (o.dat ++ [.tuple ds])) (o.st bd) := by
  cases o with
  | scan v t => exact .scan (.inr rfl) h
  | run v t f => exact .run (.inr rfl) h
  | seek v t f a => exact .seek (.inr rfl) h
  | each v b => have := @LtD.each φ v b bd (.tuple ds) ds (.inr rfl) h; rw [hφ] at this; exact this
  | rise v b k => have := @LtD.rise φ v b k bd (.tuple ds) ds (.inr rfl) h; rw [hφ] at this; exact this
  | look v b ts => have := @LtD.look φ v b ts bd (.tuple ds) ds (.inr rfl) h; rw [hφ] at this; exact this
  | same a b => exact .same (.inr rfl) h
theorem og_std {ds : List PyData} {bd : List Stm} (h : StDs ds bd) (o : Og) : StD (.tuple (o.dat ++ [.tuple ds])) (o.st bd) := by
  cases o with
  | scan v t => exact .scan (.inr rfl) h
  | run v t f => exact .run (.inr rfl) h
  | seek v t f a => exact .seek (.inr rfl) h
  | each v b => exact .each (.inr rfl) h
  | rise v b k => exact .rise (.inr rfl) h
  | look v b ts => exact .look (.inr rfl) (.inr rfl) h
  | same a b => exact .same (.inr rfl) h
/-- the data is the statement's own -/
def StE (d : PyData) (s : Stm) : Prop := StD d s ∧ d = dSt s
def StEs (ds : List PyData) (ss : List Stm) : Prop := StDs ds ss ∧ ds = dSts ss
theorem put_ste (b : Str) (ts : List Tm) (adds : List (List Prd)) : StE (dSt (.put b ts adds)) (.put b ts adds) := ⟨put_std b ts adds, rfl⟩
theorem og_ste {ds : List PyData} {bd : List Stm} (h : StEs ds bd) (o : Og) : StE (.tuple (o.dat ++ [.tuple ds])) (o.st bd) := by
  refine ⟨og_std h.1 o, ?_⟩
  rw [h.2]
  cases o <;> simp only [Og.st, dSt] <;> rfl
theorem StE.one {d : PyData} {s : Stm} (h : StE d s) : StEs [d] [s] := ⟨.cons h.1 .nil, by rw [dSts, dSts, h.2]⟩
theorem StEs.nil : StEs [] [] := ⟨.nil, by rw [dSts]⟩
theorem StEs.app {d : PyData} {s : Stm} {d2 : PyData} {s2 : Stm} (h : StE d s) (h2 : StE d2 s2) : StEs [d, d2] [s, s2] := ⟨.cons h.1 (.cons h2.1 .nil), by rw [dSts, dSts, dSts, h.2, h2.2]⟩
theorem StDs.snoc' {d : PyData} {s : Stm} : ∀ {ds : List PyData} {ss : List Stm}, StDs ds ss → StD d s → StDs (ds ++ [d]) (ss ++ [s])
  | _, _, .nil, h => .cons h .nil
  | _, _, .cons a b, h => .cons a (b.snoc' h)
theorem StEs.snoc {d : PyData} {s : Stm} {ds : List PyData} {ss : List Stm} (h : StEs ds ss) (k : StE d s) : StEs (ds ++ [d]) (ss ++ [s]) := ⟨h.1.snoc' k.1, by rw [h.2, k.2, dSts_map, dSts_map, List.map_append]; rfl⟩
def BrOk (tbs : List (Str × List Str)) (sc : Sc) (bl : Blk) (st : Stm) : Prop := (∃ ts adds, st = .put bl.1 ts adds ∧ LPutOk sc bl ts adds) ∨ ∃ o fs ts adds, Og.ok tbs [] (arS sc) fs [] o ∧ IsNm o.v ∧ o.v ∉ sc.map (·.1) ∧ st = o.st [.put bl.1 ts adds] ∧ LPutOk (sc ++ [(o.v, fs, [])]) bl ts adds
/-- what stands around a body, right in a scope; what it adds to the scope -/
def OgR (tbs : List (Str × List Str)) (rd : List Blk) (sc : Sc) (o : Og) (ext : Sc) : Prop :=
  (∃ fs ss, o.ok tbs rd (arS sc) fs ss ∧ IsNm o.v ∧ o.v ∉ sc.map (·.1) ∧ ext = [(o.v, fs, ss)]) ∨ ∃ a b, o = .same a b ∧ TmOk (arS sc) a ∧ TmOk (arS sc) b ∧ ext = []
inductive OgsR (tbs : List (Str × List Str)) (rd : List Blk) : List Og → Sc → Prop
  | nil : OgsR tbs rd [] []
  | snoc {os : List Og} {sc ext : Sc} {o : Og} : OgsR tbs rd os sc → OgR tbs rd sc o ext → OgsR tbs rd (os ++ [o]) (sc ++ ext)
theorem OgsR.inv {tbs : List (Str × List Str)} {rd : List Blk} {os : List Og} {o : Og} {sc' : Sc} (h : OgsR tbs rd (os ++ [o]) sc') : ∃ sc ext, OgsR tbs rd os sc ∧ OgR tbs rd sc o ext ∧ sc' = sc ++ ext := by
  generalize e : os ++ [o] = l at h
  cases h with
  | nil => simp at e
  | @snoc os2 sc ext o2 a b =>
    obtain ⟨e1, e2⟩ := List.append_inj' e rfl
    cases e1
    cases e2
    exact ⟨sc, ext, a, b, rfl⟩
inductive BdR (tbs : List (Str × List Str)) (oth : List Blk) (sc : Sc) (s : Stm) : Bool → Bool → List Stm → Prop
  | one {u : Bool} : BdR tbs oth sc s u u [s]
  | right {b : Blk} {br : Stm} : b ∈ oth → BrOk tbs sc b br → BdR tbs oth sc s false true [s, br]
  | left {b : Blk} {br : Stm} : b ∈ oth → BrOk tbs sc b br → BdR tbs oth sc s false true [br, s]
inductive NS (tbs : List (Str × List Str)) (rd oth : List Blk) (bl : Blk) : Nat → Sc → Stm → Bool → Prop
  | put {sc : Sc} {ts : List Tm} {adds : List (List Prd)} : LPutOk sc bl ts adds → NS tbs rd oth bl 0 sc (.put bl.1 ts adds) false
  | wrap {d : Nat} {sc ext : Sc} {o : Og} {s : Stm} {u u' : Bool} {bd : List Stm} : OgR tbs rd sc o ext → NS tbs rd oth bl d (sc ++ ext) s u → BdR tbs oth (sc ++ ext) s u u' bd → NS tbs rd oth bl (d + 1) sc (o.st bd) u'
structure EnR (E : CEnv) (tbs : List (Str × List Str)) (rd oth : List Blk) (bl : Blk) : Prop where
  tabs : E.tabs = tbs
  nd : (tbs.map (·.1)).Nodup
  eb : lkA E.blks bl.1 = some bl.2
  er : ∀ x ∈ rd, lkA E.blks x.1 = some x.2 ∧ 1 ≤ x.2.2.length
  eo : ∀ x ∈ oth, lkA E.blks x.1 = some x.2
  n1 : ∀ x ∈ rd, x.1 ≠ bl.1
  n2 : ∀ x ∈ oth, ∀ y ∈ rd, x.1 ≠ y.1
  n3 : ∀ x ∈ oth, x.1 ≠ bl.1
structure CsR (rd oth : List Blk) (bl : Blk) (top : Nat) (u : Bool) (cs : Cs) : Prop where
  nb : bl.1 ∉ cs.nm
  pb : top ∉ puN cs bl.1
  rd : ∀ x ∈ rd, ∃ t, lkA cs.pu x.1 = some [t] ∧ t ≠ top
  ot : u = true → ∀ x ∈ oth, x.1 ∉ cs.nm ∧ top ∉ puN cs x.1
theorem pu_put {cs : Cs} {b : Str} {top : Nat} : lkA (cs.put b top).pu b = some (puN cs b ++ [top]) ∧ ∀ x, x ≠ b → lkA (cs.put b top).pu x = lkA cs.pu x := by
  unfold Cs.put
  dsimp only
  refine ⟨by rw [lkA_putA, if_pos rfl]; rfl, fun x hx => by rw [lkA_putA, if_neg (Ne.symm hx)]⟩
theorem put_ck {E : CEnv} {top n k : Nat} {sc : Sc} {cs : Cs} {bl : Blk} {ts : List Tm} {adds : List (List Prd)} (eb : lkA E.blks bl.1 = some bl.2) (hk : k ≤ 8) (hs : cs.seen < 40) (nb : bl.1 ∉ cs.nm) (pb : top ∉ puN cs bl.1) (h : LPutOk sc bl ts adds) : Ck E top n k (arS sc) cs (.put bl.1 ts adds) (cs.see.put bl.1 top) := by
  obtain ⟨h1, h2, h3, h4⟩ := h
  exact .put hk hs ⟨bl.2.1, bl.2.2, eb, nb, h1, h2, h3, h4, pb⟩
theorem og_ck {E : CEnv} {tbs : List (Str × List Str)} {rd : List Blk} {top n k : Nat} {sc ext : Sc} {cs : Cs} {o : Og} {bd : List Stm} (et : E.tabs = tbs) (nd : (tbs.map (·.1)).Nodup) (er : ∀ x ∈ rd, lkA E.blks x.1 = some x.2 ∧ 1 ≤ x.2.2.length) (h : OgR tbs rd sc o ext) (hk : k ≤ 8) (hs : cs.seen < 40) (bo : BodyOk bd) (hr : ∀ x ∈ rd, ∃ t, lkA cs.pu x.1 = some [t] ∧ t ≠ top) :
    ∃ nm', (∀ x ∈ nm', x ∈ cs.nm ∨ ∃ y ∈ rd, y.1 = x) ∧ ∀ cs', CkL E top n (k + 1) (arS (sc ++ ext)) { cs.see with nm := nm' } bd cs' → Ck E top (n + 1) k (arS sc) cs (o.st bd) cs' := by
  subst et
  have inm : ∀ x ∈ cs.nm, x ∈ cs.nm ∨ ∃ y ∈ rd, y.1 = x := fun x hx => .inl hx
  rcases h with ⟨fs, ss, ok, nv, nnv, rfl⟩ | ⟨a, b, rfl, ha, hb, rfl⟩
  · have hv := arS_none nnv
    have tab : ∀ {t : Str}, (t, fs) ∈ E.tabs → lkA E.tabs t = some fs := fun h => lkA_ofI (p := (_, fs)) nd h
    have e1 : ss = [] → arS (sc ++ [(o.v, fs, ss)]) = arS sc ++ [(o.v, false, fs, [])] := fun e => by subst e; rw [arS_app]; rfl
    have e2 : 1 ≤ ss.length → arS (sc ++ [(o.v, fs, ss)]) = arS sc ++ [(o.v, true, fs, ss)] := fun e => by
      rw [arS_app]
      cases ss with
      | nil => exact absurd e (by decide)
      | cons x xs => rfl
    have rdm : ∀ {b : Str}, (b, fs, ss) ∈ rd → lkA E.blks b = some (fs, ss) ∧ 1 ≤ ss.length := fun h => er _ h
    have inb : ∀ {b : Str}, (b, fs, ss) ∈ rd → ∀ x ∈ cs.nm ++ [b], x ∈ cs.nm ∨ ∃ y ∈ rd, y.1 = x := fun h x hx => by
      rcases List.mem_append.mp hx with hx | hx
      · exact .inl hx
      · exact .inr ⟨_, h, (List.mem_singleton.mp hx).symm⟩
    have ent : ∀ {b : Str}, (b, fs, ss) ∈ rd → EntOk E cs top b fs ss := fun h => ⟨(rdm h).1, hr _ h⟩
    cases o with
    | scan v t =>
      refine ⟨cs.nm, inm, fun cs' g => ?_⟩
      rw [e1 ok.2] at g
      exact .scan hk hs bo nv hv (tab ok.1) g
    | run v t f =>
      refine ⟨cs.nm, inm, fun cs' g => ?_⟩
      rw [e1 ok.2.1] at g
      exact .run hk hs bo nv hv (tab ok.1) ok.2.2 g
    | seek v t f a =>
      refine ⟨cs.nm, inm, fun cs' g => ?_⟩
      rw [e1 ok.2.1] at g
      exact .seek hk hs bo nv hv (tab ok.1) ok.2.2.1 ok.2.2.2 g
    | each v b =>
      refine ⟨cs.nm ++ [b], inb ok, fun cs' g => ?_⟩
      rw [e2 (rdm ok).2] at g
      exact .each hk hs bo nv hv (ent ok) g
    | rise v b f =>
      refine ⟨cs.nm ++ [b], inb ok.1, fun cs' g => ?_⟩
      rw [e2 (rdm ok.1).2] at g
      exact .rise hk hs bo nv hv (ent ok.1) ok.2 g
    | look v b ts =>
      refine ⟨cs.nm ++ [b], inb ok.1, fun cs' g => ?_⟩
      rw [e2 (rdm ok.1).2] at g
      exact .look hk hs bo nv hv (ent ok.1) ok.2.1 ok.2.2 g
    | same a b => exact ok.elim
  · refine ⟨cs.nm, inm, fun cs' g => ?_⟩
    rw [List.append_nil] at g
    exact .same hk hs bo ha hb g
def u2 (u : Bool) : Nat := if u then 2 else 0
end Fm

namespace Fm
open PySem PySem.Spec PyProof.Rows L2
/-! ### _law_branch -/
def spBranch : Sp := fun vs H Q _ => ∃ (b c t s ba : Addr) (vr : V) (xs : List V) (tbs : List (Str × List Str)) (sc : Sc) (bl : Blk), vs = [.ref b, .ref t, vr, .ref s, .ref ba] ∧ Bag H b c ∧ H t = some (.lst xs) ∧ t ≠ b ∧ ImAll H 2 xs (tbs.map dTab) ∧ GoodTs tbs ∧ ScAt b H s sc ∧ ScOk sc ∧ sc.length ≤ 18 ∧ Im H 2 (.ref ba) (dBlk bl) ∧ BlkG bl ∧
  ∀ (a : Addr) (d : PyData) (st : Stm) (H' : Hp), Bag H' b c → Kp [b] H H' → Im H' 9 (.ref a) d → LtD id d st → StE d st → BrOk tbs sc bl st → Q (.ref a) H'
theorem scOk_snoc {tbs : List (Str × List Str)} {sc : Sc} {v : Str} {fs ss : List Str} (h : ScOk sc) (nv : IsNm v) (nnv : v ∉ sc.map (·.1)) (l1 : 1 ≤ fs.length + ss.length) (l4 : fs.length ≤ 4) (s3 : ss.length ≤ 3) (lw : ∀ w ∈ fs ++ ss, w.length ≤ 1000000) (few : ((sc ++ [(v, fs, ss)]).filter fun x => !x.2.2.isEmpty).length ≤ 3) (l : sc.length ≤ 99) : ScOk (sc ++ [(v, fs, ss)]) := by
  refine ⟨by rw [List.map_append]; exact nd_snoc h.nd nnv, fun x hx => ?_, few, by rw [List.length_append]; simp; omega⟩
  rcases List.mem_append.mp hx with hx | hx
  · exact h.small x hx
  · rw [List.mem_singleton.mp hx]
    exact ⟨len8 nv, l4, s3, lw, by rw [List.length_append]; exact l1⟩
theorem og_tab {tbs : List (Str × List Str)} {ar : Ar} {fs ss : List Str} {o : Og} (h : Og.ok tbs [] ar fs ss o) : (∃ t, (t, fs) ∈ tbs) ∧ ss = [] := by
  cases o with
  | scan v t => exact ⟨⟨t, h.1⟩, h.2⟩
  | run v t f => exact ⟨⟨t, h.1⟩, h.2.1⟩
  | seek v t f a => exact ⟨⟨t, h.1⟩, h.2.1⟩
  | each v b => exact nomatch h
  | rise v b k => exact nomatch h.1
  | look v b ts => exact nomatch h.1
  | same a b => exact h.elim
section
variable {P : Program} {w : World} {K : PySem.W.Frag} {mg : Str → Option Value} {base : Heap}
theorem ok_branch (B : Bi mg) (D : Dfn K mg "_law_branch" s__law_branch ["_law_bag_here", "_law_tables_here", "_law_readable", "_law_scope", "_law_block"]) (G_pick : Has P w K mg base CX0 "_law_pick" ["_law_bag_here", "_law_many"] 1 spPick) (G_opening : Has P w K mg base CX0 "_law_opening" ["_law_bag_here", "_law_tables_here", "_law_readable", "_law_scope"] 4 spOpeningG) (G_put : Has P w K mg base CX0 "_law_put" ["_law_bag_here", "_law_block", "_law_scope"] 4 spLPut) : Has P w K mg base CX0 "_law_branch" ["_law_bag_here", "_law_tables_here", "_law_readable", "_law_scope", "_law_block"] 5 spBranch := by
  refine D.has sc__law_branch (fun vs H Q E h => ?_) (fun f cdv A outer s0 H vs Q E hr h => ?_)
  · obtain ⟨b, c, t, s, ba, vr, xs, tbs, sc, bl, rfl, _⟩ := h; rfl
  · obtain ⟨b, c, t, s, ba, vr, xs, tbs, sc, bl, rfl, BG, ht, tb, ix, g, SA, ok, l18, ib, bg, k⟩ := h
    refine ⟨_, (pss_cons (ps_if (pt_cmpR op_eq (pe_has G_pick (hr.mono (by omega)) (pa_cons (pv 0) (pa_cons pe_int pa_nil))) pe_int (nomark _))
  (pss_cons (ps_asg (pe_has G_opening (hr.mono (by omega)) (pa_cons (pv 0) (pa_cons (pv 1) (pa_cons (pe_lst pa_nil) (pa_cons (pv 3) pa_nil))))) (pg_tup rfl (pgs_cons (pg_name (i := 5) sc__law_branch.nd rfl (by first | exact Or.inl rfl | exact Or.inr rfl)) (pgs_cons (pg_name (i := 6) sc__law_branch.nd rfl (by first | exact Or.inl rfl | exact Or.inr rfl)) pgs_nil))))
  (pss_one (ps_ret (pe_op op_catA (pv 5) (pe_tup (pa_cons (pe_tup (pa_cons (pe_has G_put (hr.mono (by omega)) (pa_cons (pv 0) (pa_cons (pv 4) (pa_cons (pe_op op_cat (pv 3) (pe_lst (pa_cons (pv 6) pa_nil))) pa_nil)))) pa_nil)) pa_nil))))))
  pss_nil)
  (pss_one (ps_ret (pe_has G_put (hr.mono (by omega)) (pa_cons (pv 0) (pa_cons (pv 4) (pa_cons (pv 3) pa_nil))))))), ?_⟩
    have hsz : sizeLine = 16777216 := rfl
    refine ⟨_, rfl, b, c, 2, rfl, BG, by decide, by decide, fun r H1 r0 r1 BG1 k1 => ?_⟩
    have ht1 := k1.at_ _ _ ht (by simpa using tb)
    have ix1 := ImAll.kp k1 ix
    refine ⟨rfl, _, rfl, ite2 (fun _ => ?_) (fun _ => ?_)⟩
    rotate_left 1
    · refine ⟨_, rfl, _, rfl, _, rfl, b, c, ba, s, bl, sc, rfl, BG1, Im.kp k1 ib, bg, SA.kp k1, ok, fun a ts adds H2 BG2 k2 ip lp => ?_⟩
      exact k a _ _ H2 BG2 (k1.trans k2) (ip.mono (by decide)) (@LtD.put id bl.1 ts adds) (put_ste _ _ _) (.inl ⟨ts, adds, rfl, lp⟩)
    · refine ⟨_, rfl, _, rfl, by show 0 ≤ sizeLine; decide, fun D hD => ?_⟩
      obtain ⟨Db, _⟩ := BG1.new hD
      have q1 : Kp [] H1 (upd H1 D (.lst [])) := Kp.new hD
      have hDD : upd H1 D (.lst []) D = some (.lst []) := upd_same
      have BG1' := BG1.keep0 q1
      generalize upd H1 D (.lst []) = H2 at q1 hDD BG1'
      have k2 := k1.trans q1.zero
      refine ⟨_, rfl, b, c, t, D, s, xs, [], tbs, [], sc, rfl, BG1', k2.at_ _ _ ht (by simpa using tb), tb, ImAll.kp k2 ix, g, hDD, Db, .nil, (fun x h => nomatch h), by decide, SA.kp k2, ok, by omega, fun a1 pa ea o fs ss H3 BG3 k3 ha1 ip ie nv nnv oko => ?_⟩
      refine ⟨a1, _, rfl, SqT.of ha1, rfl, _, _, rfl, _, _, rfl, rfl, ?_⟩
      obtain ⟨⟨t1, ht1⟩, rfl⟩ := og_tab oko
      have gt := g.1 _ ht1
      have l4 : fs.length ≤ 4 := gt.2.2.2.2
      have l1 : 1 ≤ fs.length := gt.2.2.2.1
      have k03 := k2.trans k3
      obtain ⟨sb, ss', hss, iss⟩ := SA.kp k03
      have lss : ss'.length = sc.length := by rw [iss.len, List.length_map]
      refine ⟨_, rfl, _, rfl, _, rfl, _, rfl, _, rfl, by show 1 ≤ sizeLine; decide, fun l1' hl1 => ?_⟩
      have q4 : Kp [] H3 (upd H3 l1' (.lst [.ref ea])) := Kp.new hl1
      have hl1' : upd H3 l1' (.lst [.ref ea]) l1' = some (.lst [.ref ea]) := upd_same
      generalize upd H3 l1' (.lst [.ref ea]) = H4 at q4 hl1'
      refine ⟨s, l1', ss', [.ref ea], rfl, rfl, q4.at_ _ _ hss (fun z => nomatch z), hl1', by simp; omega, fun l2 hl2 => ?_⟩
      have q5 : Kp [] H4 (upd H4 l2 (.lst (ss' ++ [.ref ea]))) := Kp.new hl2
      have hl2' : upd H4 l2 (.lst (ss' ++ [.ref ea])) l2 = some (.lst (ss' ++ [.ref ea])) := upd_same
      have l2b : l2 ≠ b := ((BG3.keep0 q4).new hl2).1
      generalize upd H4 l2 (.lst (ss' ++ [.ref ea])) = H5 at q5 hl2'
      have q45 := q4.trans q5
      have k05 := k03.trans q45.zero
      have scok : ScOk (sc ++ [(o.v, fs, [])]) := scOk_snoc (tbs := tbs) ok nv nnv (by simp; omega) l4 (by simp) (fun w hw => len8 (gt.2.1 w (by simpa using hw))) (by
        rw [List.filter_append]
        have := ok.few
        simpa using this) (by omega)
      refine ⟨b, c, ba, l2, bl, sc ++ [(o.v, fs, [])], rfl, BG3.keep0 q45, Im.kp k05 ib, bg, ⟨l2b, _, hl2', by
        rw [List.map_append]
        exact DtAll.append (ImAll.kp q45 iss) (.cons (Im.kp q45 ie) .nil)⟩, scok, fun a2 ts adds H6 BG6 k6 ip2 lp => ?_⟩
      refine ⟨by show 1 ≤ sizeLine; decide, fun p1 hp1 => ⟨by show 1 ≤ sizeLine; decide, fun p2 hp2 => ?_⟩⟩
      have q7 : Kp [] H6 (upd H6 p1 (.tup [.ref a2])) := Kp.new hp1
      have e7 : upd H6 p1 (.tup [.ref a2]) p1 = some (.tup [.ref a2]) := upd_same
      generalize upd H6 p1 (.tup [.ref a2]) = H7 at q7 e7 hp2
      have q8 : Kp [] H7 (upd H7 p2 (.tup [.ref p1])) := Kp.new hp2
      have e8 : upd H7 p2 (.tup [.ref p1]) p2 = some (.tup [.ref p1]) := upd_same
      generalize upd H7 p2 (.tup [.ref p1]) = H8 at q8 e8
      have q78 := q7.trans q8
      have k38 : Kp [b] H3 H8 := (q45.zero.trans k6).trans q78.zero
      have ip8 := Im.kp k38 ip
      obtain ⟨pa', m', ys, e1, e2, hpa, ay⟩ := Dt.tupI ip8
      cases e1
      cases e2
      have ly : ys.length ≤ 5 := by rw [ay.len]; cases o <;> simp [Og.dat]
      refine catA_in hpa e8 (by simp; omega) fun p3 H9 q9 hp3 => ?_
      have q79 := q78.trans q9
      have ip2' := Im.kp q79 ip2
      have hp1' := (q8.trans q9).tp _ _ e7
      refine k p3 _ _ H9 ((BG6.keep0 q79)) (((k05.trans k6).trans q79.zero)) ?_ (og_lts (φ := id) (fun _ => rfl) (.cons .put .nil) o) (og_ste (put_ste _ _ _).one o) (.inr ⟨o, fs, ts, adds, oko, nv, nnv, rfl, lp⟩)
      exact .tup hp3 ⟨by simp; omega, ⟨_, hp3⟩⟩ (DtAll.append ((ImAll.kp q9 ay).mono (by decide)) (.cons (.tup hp1' ⟨by simp, ⟨_, hp1'⟩⟩ (.cons (ip2'.mono (by decide)) .nil)) .nil))
end
end Fm

namespace Fm
open PySem PySem.Spec PyProof.Rows L2
/-! ### _law_top -/
theorem og_sub {tbs : List (Str × List Str)} {rd rd' : List Blk} {ar : Ar} {fs ss : List Str} {o : Og} (h : ∀ x ∈ rd', x ∈ rd) (ok : Og.ok tbs rd' ar fs ss o) : Og.ok tbs rd ar fs ss o := by
  cases o with
  | scan v t => exact ok
  | run v t f => exact ok
  | seek v t f a => exact ok
  | each v b => exact h _ ok
  | rise v b k => exact ⟨h _ ok.1, ok.2⟩
  | look v b ts => exact ⟨h _ ok.1, ok.2⟩
  | same a b => exact ok
theorem og_small {tbs : List (Str × List Str)} {rd : List Blk} {ar : Ar} {fs ss : List Str} {o : Og} (g : GoodTs tbs) (gr : ∀ x ∈ rd, BlkG x) (ok : Og.ok tbs rd ar fs ss o) : fs.length ≤ 4 ∧ ss.length ≤ 3 ∧ 1 ≤ fs.length + ss.length ∧ (∀ w ∈ fs ++ ss, w.length ≤ 1000000) ∧ (rd = [] → ss = []) := by
  have tab : ∀ {t : Str}, (t, fs) ∈ tbs → ss = [] → fs.length ≤ 4 ∧ ss.length ≤ 3 ∧ 1 ≤ fs.length + ss.length ∧ (∀ w ∈ fs ++ ss, w.length ≤ 1000000) ∧ (rd = [] → ss = []) := fun h e => by
    subst e
    have gt := g.1 _ h
    have l4 : fs.length ≤ 4 := gt.2.2.2.2
    have l1 : 1 ≤ fs.length := gt.2.2.2.1
    exact ⟨l4, Nat.zero_le _, by omega, fun w hw => len8 (gt.2.1 w (by simpa using hw)), fun _ => rfl⟩
  have blk : ∀ {b : Str}, (b, fs, ss) ∈ rd → fs.length ≤ 4 ∧ ss.length ≤ 3 ∧ 1 ≤ fs.length + ss.length ∧ (∀ w ∈ fs ++ ss, w.length ≤ 1000000) ∧ (rd = [] → ss = []) := fun h => by
    have gb := gr _ h
    have k3 : fs.length ≤ 3 := gb.k3
    have s1 : 1 ≤ ss.length := gb.s1
    have s3 : ss.length ≤ 3 := gb.s3
    exact ⟨by omega, s3, by omega, fun w hw => len8 (gb.nms w hw), fun e => by rw [e] at h; cases h⟩
  cases o with
  | scan v t => exact tab ok.1 ok.2
  | run v t f => exact tab ok.1 ok.2.1
  | seek v t f a => exact tab ok.1 ok.2.1
  | each v b => exact blk ok
  | rise v b k => exact blk ok.1
  | look v b ts => exact blk ok.1
  | same a b => exact ok.elim
theorem OgsR.len {tbs : List (Str × List Str)} {rd : List Blk} {os : List Og} {sc : Sc} (h : OgsR tbs rd os sc) : sc.length ≤ os.length := by
  induction h with
  | nil => exact Nat.le_refl _
  | @snoc os sc ext o _ h ih =>
    rw [List.length_append, List.length_append]
    have : ext.length ≤ 1 := by
      rcases h with ⟨fs, ss, _, _, _, rfl⟩ | ⟨_, _, _, _, _, rfl⟩
      · exact Nat.le_refl _
      · exact Nat.zero_le _
    show _ ≤ os.length + 1
    omega
theorem scOk_pre {a b : Sc} (h : ScOk (a ++ b)) : ScOk a := by
  refine ⟨?_, fun x hx => h.small x (List.mem_append_left _ hx), ?_, ?_⟩
  · have := h.nd
    rw [List.map_append] at this
    exact (List.nodup_append.mp this).1
  · have := h.few
    rw [List.filter_append, List.length_append] at this
    omega
  · have := h.len
    rw [List.length_append] at this
    omega
theorem LtDs.app {φ : Str → Str} {d : PyData} {s : Stm} {d2 : PyData} {s2 : Stm} (h : LtD φ d s) (h2 : LtD φ d2 s2) : LtDs φ [d, d2] [s, s2] := .cons h (.cons h2 .nil)
def Og.kind : Og → Str
  | .scan _ _ => "scan"
  | .run _ _ _ => "run"
  | .seek _ _ _ _ => "seek"
  | .each _ _ => "each"
  | .rise _ _ _ => "rise"
  | .look _ _ _ => "look"
  | .same _ _ => "same"
theorem Og.dat_kind (o : Og) : ∃ tl, o.dat = .str o.kind :: tl := by cases o <;> exact ⟨_, rfl⟩
theorem imAll_snoc {H : Hp} {n : Nat} {d : PyData} : ∀ {ds : List PyData} {xs : List V}, ImAll H n xs (ds ++ [d]) → ∃ s0 s1, xs = s0 ++ [s1] ∧ ImAll H n s0 ds
  | [], xs, h => by
    obtain ⟨v, w, rfl, _, h2⟩ := DtAll.consI h
    have := h2.nilI
    subst this
    exact ⟨[], v, rfl, .nil⟩
  | e :: ds, xs, h => by
    obtain ⟨v, w, rfl, h1, h2⟩ := DtAll.consI h
    obtain ⟨s0, s1, rfl, i0⟩ := imAll_snoc h2
    exact ⟨v :: s0, s1, rfl, .cons h1 i0⟩
def cntS (sc : Sc) : Nat := (sc.filter fun x => !x.2.2.isEmpty).length
theorem cntS_snoc (sc : Sc) (v : Str) (fs ss : List Str) : cntS (sc ++ [(v, fs, ss)]) = cntS sc + if ss.isEmpty then 0 else 1 := by
  unfold cntS
  rw [List.filter_append, List.length_append]
  cases ss <;> rfl
theorem eightL : ∀ n : Nat, n < 8 → ∃ k : Nat, ([V.int 2, V.int 1, V.int 2, V.int 3, V.int 1, V.int 0, V.int 2, V.int 4] : List V)[n]? = some (.int k) ∧ k ≤ 4
  | 0, _ => ⟨2, rfl, by decide⟩
  | 1, _ => ⟨1, rfl, by decide⟩
  | 2, _ => ⟨2, rfl, by decide⟩
  | 3, _ => ⟨3, rfl, by decide⟩
  | 4, _ => ⟨1, rfl, by decide⟩
  | 5, _ => ⟨0, rfl, by decide⟩
  | 6, _ => ⟨2, rfl, by decide⟩
  | 7, _ => ⟨4, rfl, by decide⟩
  | n + 8, h => absurd h (by omega)
def spTop : Sp := fun vs H Q _ => ∃ (b c t r ba oa : Addr) (xs rs ots : List V) (tbs : List (Str × List Str)) (rd oth : List Blk) (bl : Blk), vs = [.ref b, .ref t, .ref r, .ref ba, .ref oa] ∧ Bag H b c ∧ H t = some (.lst xs) ∧ t ≠ b ∧ ImAll H 2 xs (tbs.map dTab) ∧ GoodTs tbs ∧ H r = some (.lst rs) ∧ r ≠ b ∧ ImAll H 2 rs (rd.map dBlk) ∧ (∀ x ∈ rd, BlkG x) ∧ rd.length ≤ 20 ∧ Im H 2 (.ref ba) (dBlk bl) ∧ BlkG bl ∧ H oa = some (.lst ots) ∧ oa ≠ b ∧ ImAll H 2 ots (oth.map dBlk) ∧ (∀ x ∈ oth, BlkG x) ∧ oth.length ≤ 20 ∧
  ∀ (a : Addr) (d : PyData) (st : Stm) (n : Nat) (u : Bool) (H' : Hp), Bag H' b c → Kp [b] H H' → Im H' 21 (.ref a) d → LtD id d st → StE d st → NS tbs rd oth bl n [] st u → n ≤ 6 → Q (.ref a) H'
/-- the openings drawn so far -/
structure Opn (tbs : List (Str × List Str)) (rd : List Blk) (H : Hp) (oA sA : Addr) (os ss : List V) (ops : List Og) (sc : Sc) : Prop where
  ho : H oA = some (.lst os)
  io : ImAll H 3 os (ops.map fun o => .tuple o.dat)
  hs : H sA = some (.lst ss)
  is : ImAll H 2 ss (sc.map dBlk)
  og : OgsR tbs rd ops sc
  ok : ScOk sc
section
variable {P : Program} {w : World} {K : PySem.W.Frag} {mg : Str → Option Value} {base : Heap}
theorem ok_top (B : Bi mg) (hrev : mg "reversed" = none) (D : Dfn K mg "_law_top" s__law_top ["_law_bag_here", "_law_tables_here", "_law_readable", "_law_block", "_law_others"]) (G_pick : Has P w K mg base CX0 "_law_pick" ["_law_bag_here", "_law_many"] 1 spPick) (G_opening : Has P w K mg base CX0 "_law_opening" ["_law_bag_here", "_law_tables_here", "_law_readable", "_law_scope"] 4 spOpeningG) (G_term : Has P w K mg base CX0 "_law_term" ["_law_bag_here", "_law_scope"] 3 spLTerm) (G_put : Has P w K mg base CX0 "_law_put" ["_law_bag_here", "_law_block", "_law_scope"] 4 spLPut) (G_branch : Has P w K mg base CX0 "_law_branch" ["_law_bag_here", "_law_tables_here", "_law_readable", "_law_scope", "_law_block"] 5 spBranch) : Has P w K mg base CX0 "_law_top" ["_law_bag_here", "_law_tables_here", "_law_readable", "_law_block", "_law_others"] 6 spTop := by
  refine D.has sc__law_top (fun vs H Q E h => ?_) (fun f cdv A outer s0 H vs Q E hr h => ?_)
  · obtain ⟨b, c, t, r, ba, oa, xs, rs, ots, tbs, rd, oth, bl, rfl, _⟩ := h; rfl
  · obtain ⟨b, c, t, r, ba, oa, xs, rs, ots, tbs, rd, oth, bl, rfl, BG0, ht, tb, ix, g, hrd, rb, ird, grd, lrd, ib, bg, hoa, oab, ioth, goth, loth, k⟩ := h
    refine ⟨_, (pss_cons (ps_set (i := 5) sc__law_top.nd rfl (by first | exact Or.inl rfl | exact Or.inr rfl) (pe_lst pa_nil))
  (pss_cons (ps_set (i := 6) sc__law_top.nd rfl (by first | exact Or.inl rfl | exact Or.inr rfl) (pe_lst pa_nil))
  (pss_cons (ps_set (i := 7) sc__law_top.nd rfl (by first | exact Or.inl rfl | exact Or.inr rfl) (pe_ix ix_list (pe_lst (pa_cons pe_int (pa_cons pe_int (pa_cons pe_int (pa_cons pe_int (pa_cons pe_int (pa_cons pe_int (pa_cons pe_int (pa_cons pe_int pa_nil))))))))) (pe_has G_pick (hr.mono (by omega)) (pa_cons (pv 0) (pa_cons pe_int pa_nil))) (fun _ _ => rfl)))
  (C8.pss_cut (ps_for PassesOwn.never rfl (pi_range1 rfl B.range (pa_cons (pv 7) pa_nil)) (pg_name (i := 8) sc__law_top.nd rfl (by first | exact Or.inl rfl | exact Or.inr rfl))
  (C8.pss_cut (ps_if (pt_cmpR op_eq (pe_callB call_len (by rfl) B.len PySem.boot_len (pa_cons (pe_lc (own := [("_law_entry", 10)]) (g := gName 10) (by rfl) sc__law_top.nd (pi_list (pv 5)) (blkOk_by (own := [("_law_entry", 10)]) (N := N__law_top) (sc := defScope s__law_top) (by decide +kernel)) (fun _ _ _ _ _ => (pg_name (i := 10) sc__law_top.nd rfl (by first | exact Or.inl rfl | exact Or.inr rfl))) (fun _ _ _ _ _ => pts_one (pt_cmpR op_gt (pe_callB (r := rLen K) call_len (by rfl) B.len PySem.boot_len (pa_cons (pe_ix (r := rIxT K) ix_tup (pv 10) pe_int (fun _ _ => rfl)) pa_nil)) pe_int (nomark _))) (fun _ _ _ _ _ => (pv 10))) pa_nil)) pe_int (nomark _))
  (pss_one (ps_set (i := 2) sc__law_top.nd rfl (by first | exact Or.inl rfl | exact Or.inr rfl) (pe_lst pa_nil)))
  pss_nil)
  (pss_cons (ps_asg (pe_has G_opening (hr.mono (by omega)) (pa_cons (pv 0) (pa_cons (pv 1) (pa_cons (pv 2) (pa_cons (pv 5) pa_nil))))) (pg_tup rfl (pgs_cons (pg_name (i := 9) sc__law_top.nd rfl (by first | exact Or.inl rfl | exact Or.inr rfl)) (pgs_cons (pg_name (i := 10) sc__law_top.nd rfl (by first | exact Or.inl rfl | exact Or.inr rfl)) pgs_nil))))
  (pss_cons (ps_expr (pe_bm PySem.F.plainAttrs_list PySem.F.slot_list_append PySem.F.type_list_append mt_append (pv 6) (pa_cons (pv 9) pa_nil)))
  (pss_cons (ps_expr (pe_bm PySem.F.plainAttrs_list PySem.F.slot_list_append PySem.F.type_list_append mt_append (pv 5) (pa_cons (pv 10) pa_nil)))
  (pss_one (ps_if (PW.pt (pw_and (pt_cmpR op_eq (pe_has G_pick (hr.mono (by omega)) (pa_cons (pv 0) (pa_cons pe_int pa_nil))) pe_int (nomark _)) (pw_and1 (pt_cmpR op_lt (pe_op op_sub (pe_op op_add (pe_callB call_len (by rfl) B.len PySem.boot_len (pa_cons (pv 6) pa_nil)) (pv 7)) (pv 8)) pe_int (nomark _)))))
  (pss_one (ps_expr (pe_bm PySem.F.plainAttrs_list PySem.F.slot_list_append PySem.F.type_list_append mt_append (pv 6) (pa_cons (pe_tup (pa_cons pe_str (pa_cons (pe_has G_term (hr.mono (by omega)) (pa_cons (pv 0) (pa_cons (pv 5) pa_nil))) (pa_cons (pe_has G_term (hr.mono (by omega)) (pa_cons (pv 0) (pa_cons (pv 5) pa_nil))) pa_nil)))) pa_nil))))
  pss_nil)))))))
  (pss_cons (ps_set (i := 11) sc__law_top.nd rfl (by first | exact Or.inl rfl | exact Or.inr rfl) (pe_tup (pa_cons (pe_has G_put (hr.mono (by omega)) (pa_cons (pv 0) (pa_cons (pv 3) (pa_cons (pv 5) pa_nil)))) pa_nil)))
  (pss_cons (ps_set (i := 12) sc__law_top.nd rfl (by first | exact Or.inl rfl | exact Or.inr rfl) pe_int)
  (pss_cons (ps_for PassesOwn.never rfl (pi_reversed rfl hrev (pa_cons (pv 6) pa_nil)) (pg_name (i := 9) sc__law_top.nd rfl (by first | exact Or.inl rfl | exact Or.inr rfl))
  (C8.pss_cut (ps_if (PW.pt (pw_and (pt_cmpR op_lt (pv 12) pe_int (nomark _)) (pw_and (pt_cmpR op_gt (pe_callB call_len (by rfl) B.len PySem.boot_len (pa_cons (pv 4) pa_nil)) pe_int (nomark _)) (pw_and1 (pt_cmpR op_eq (pe_has G_pick (hr.mono (by omega)) (pa_cons (pv 0) (pa_cons pe_int pa_nil))) pe_int (nomark _))))))
  (pss_cons (ps_set (i := 12) sc__law_top.nd rfl (by first | exact Or.inl rfl | exact Or.inr rfl) pe_int)
  (pss_cons (ps_set (i := 13) sc__law_top.nd rfl (by first | exact Or.inl rfl | exact Or.inr rfl) (pe_has G_branch (hr.mono (by omega)) (pa_cons (pv 0) (pa_cons (pv 1) (pa_cons (pv 2) (pa_cons (pv 5) (pa_cons (pe_ix ix_list (pv 4) (pe_has G_pick (hr.mono (by omega)) (pa_cons (pv 0) (pa_cons (pe_callB call_len (by rfl) B.len PySem.boot_len (pa_cons (pv 4) pa_nil)) pa_nil))) (fun _ _ => rfl)) pa_nil)))))))
  (pss_one (ps_if (pt_cmpR op_eq (pe_has G_pick (hr.mono (by omega)) (pa_cons (pv 0) (pa_cons pe_int pa_nil))) pe_int (nomark _))
  (pss_one (ps_set (i := 11) sc__law_top.nd rfl (by first | exact Or.inl rfl | exact Or.inr rfl) (pe_op op_catA (pv 11) (pe_tup (pa_cons (pv 13) pa_nil)))))
  (pss_one (ps_set (i := 11) sc__law_top.nd rfl (by first | exact Or.inl rfl | exact Or.inr rfl) (pe_op op_catA (pe_tup (pa_cons (pv 13) pa_nil)) (pv 11))))))))
  pss_nil)
  (pss_cons (ps_set (i := 11) sc__law_top.nd rfl (by first | exact Or.inl rfl | exact Or.inr rfl) (pe_tup (pa_cons (pe_op op_catA (pv 9) (pe_tup (pa_cons (pv 11) pa_nil))) pa_nil)))
  (pss_one (ps_if (pt_cmpR op_ne (pe_ix (r := rIxT K) ix_tup (pv 9) pe_int (fun _ _ => rfl)) pe_str (nomark _))
  (pss_one (ps_set (i := 5) sc__law_top.nd rfl (by first | exact Or.inl rfl | exact Or.inr rfl) (pe_slice sl_list (pv 5) po_none (po_some (pe_un un_neg pe_int)))))
  pss_nil)))))
  (pss_one (ps_ret (pe_ix (r := rIxT K) ix_tup (pv 11) pe_int (fun _ _ => rfl))))))))))), ?_⟩
    dsimp only [L2.cxOf, L2.Cx.nox]
    have hsz : sizeLine = 16777216 := rfl
    refine ⟨by show 0 ≤ sizeLine; decide, fun sA hsA => ?_⟩
    have n1 : Kp [] H (upd H sA (.lst [])) := Kp.new hsA
    have hs1 : upd H sA (.lst []) sA = some (.lst []) := upd_same
    obtain ⟨sb, sc0⟩ := BG0.new hsA
    have BG1 := BG0.keep0 n1
    generalize upd H sA (.lst []) = H1 at n1 hs1 BG1
    refine ⟨by show 0 ≤ sizeLine; decide, fun oA hoA => ?_⟩
    have n2 : Kp [] H1 (upd H1 oA (.lst [])) := Kp.new hoA
    have ho2 : upd H1 oA (.lst []) oA = some (.lst []) := upd_same
    obtain ⟨ob, oc0⟩ := BG1.new hoA
    have BG2 := BG1.keep0 n2
    have so : sA ≠ oA := fun z => by rw [z] at hs1; rw [hs1] at hoA; cases hoA
    have hs2 := n2.at_ _ _ hs1 (fun z => nomatch z)
    generalize upd H1 oA (.lst []) = H2 at n2 ho2 BG2 hs2
    refine ⟨by show 8 ≤ sizeLine; decide, fun p8 np8 => ?_⟩
    have m3 : Kp [] H2 _ := Kp.new (o := .lst [.int 2, .int 1, .int 2, .int 3, .int 1, .int 0, .int 2, .int 4]) np8
    have p8b := (BG2.new np8).1
    refine ⟨_, rfl, b, c, 8, rfl, BG2.keep0 m3, by decide, by decide, fun r8 H3 r80 r81 BG3 k3 => ?_⟩
    obtain ⟨lo, hlo, lo4⟩ := eightL r8.toNat (by omega)
    refine ⟨p8, _, r8, .int lo, rfl, rfl, SqL.of (k3.at_ _ _ upd_same (by simpa using p8b)), atI_of r80 hlo, ?_⟩
    have hs3 := (m3.zero.trans k3).at_ _ _ hs2 (by simpa using sb)
    have ho3 := (m3.zero.trans k3).at_ _ _ ho2 (by simpa using ob)
    have k13 : Kp [b] H H3 := (n1.trans n2).zero.trans (m3.zero.trans k3)
    have tS : t ≠ sA := fun z => by rw [z, hsA] at ht; cases ht
    have tO : t ≠ oA := fun z => by rw [z, n1.same.free hoA] at ht; cases ht
    have aS : oa ≠ sA := fun z => by rw [z, hsA] at hoa; cases hoa
    have aO : oa ≠ oA := fun z => by rw [z, n1.same.free hoA] at hoa; cases hoa
    have rS : r ≠ sA := fun z => by rw [z, hsA] at hrd; cases hrd
    have rO : r ≠ oA := fun z => by rw [z, n1.same.free hoA] at hrd; cases hrd
    refine ⟨fun σ H' => ∃ (rr : Addr) (o8 o9 o10 : Option V), σ = [some (.ref b), some (.ref t), some (.ref rr), some (.ref ba), some (.ref oa), some (.ref sA), some (.ref oA), some (.int lo), o8, o9, o10, none, none, none] ∧ Bag H' b c ∧ Kp [b, sA, oA] H3 H' ∧ ∃ (os ss : List V) (ops : List Og) (sc : Sc), Opn tbs rd H' oA sA os ss ops sc ∧ sc.length = lo ∧ ops.length ≤ 6, ?_, ?_⟩
    · refine ⟨_, rfl, (lo : Int), rfl, by omega, by omega, ?_⟩
      refine for_range (lo := 0) (n := (lo : Int).toNat) (fun i σ H' => ∃ (rr : Addr) (o8 o9 o10 : Option V), σ = [some (.ref b), some (.ref t), some (.ref rr), some (.ref ba), some (.ref oa), some (.ref sA), some (.ref oA), some (.int lo), o8, o9, o10, none, none, none] ∧ Bag H' b c ∧ Kp [b, sA, oA] H3 H' ∧ ∃ (os ss : List V) (ops : List Og) (sc : Sc), Opn tbs rd H' oA sA os ss ops sc ∧ sc.length = i ∧ ops.length + lo ≤ 6 + i ∧ ∃ (rs' : List V) (rd' : List Blk), H' rr = some (.lst rs') ∧ rr ≠ b ∧ rr ≠ sA ∧ rr ≠ oA ∧ ImAll H' 2 rs' (rd'.map dBlk) ∧ (∀ x ∈ rd', x ∈ rd) ∧ rd'.length ≤ 20) ⟨r, none, none, none, rfl, BG3, Kp.refl _, [], [], [], [], ⟨ho3, .nil, hs3, .nil, .nil, ⟨List.nodup_nil, (fun x h => nomatch h), Nat.zero_le _, Nat.zero_le _⟩⟩, rfl, by show 0 + lo ≤ 6 + 0; omega, rs, rd, k13.at_ _ _ hrd (by simpa using rb), rb, rS, rO, ImAll.kp k13 ird, (fun x h => h), lrd⟩ ?_ ?_
      · rintro i σ Ha hi ⟨rr, o8, o9, o10, rfl, Ba, ka, os, ss, ops, sc, OP, lsc, lops, rs', rd', hrr, rrb, rrS, rrO, ird', sub, lrd'⟩
        refine ⟨fun σ H' => ∃ (rr : Addr) (o10 : Option V), σ = [some (.ref b), some (.ref t), some (.ref rr), some (.ref ba), some (.ref oa), some (.ref sA), some (.ref oA), some (.int lo), some (.int (0 + (i : Int))), o9, o10, none, none, none] ∧ Bag H' b c ∧ Kp [] Ha H' ∧ ∃ (rs' : List V) (rd' : List Blk), H' rr = some (.lst rs') ∧ rr ≠ b ∧ rr ≠ sA ∧ rr ≠ oA ∧ ImAll H' 2 rs' (rd'.map dBlk) ∧ (∀ x ∈ rd', x ∈ rd) ∧ rd'.length ≤ 20 ∧ (cntS sc = 3 → rd' = []), ?_, ?_⟩
        · have lss : ss.length = sc.length := by rw [OP.is.len, List.length_map]
          refine ⟨_, rfl, sA, rfl, ⟨_, SqL.of OP.hs⟩, fun D hD => ?_⟩
          obtain ⟨Db, Dc⟩ := Ba.new hD
          refine lc_it (walk_list (xs := ss)) (fun j H' => (∃ zs, H' D = some (.lst zs) ∧ zs.length = cntS (sc.take j)) ∧ Kp [] Ha H') ⟨⟨[], upd_same, rfl⟩, Kp.new hD⟩ (fun j H' _ h => SqL.of (h.2.at_ _ _ OP.hs fun z => nomatch z)) ?_ ?_
          · rintro j u Hb Hc hj ⟨⟨zs, hz, lz⟩, kb⟩ ⟨rfl, hu1⟩
            have hj : j < ss.length := hj
            obtain ⟨x, hx⟩ : ∃ x, sc[j]? = some x := ⟨_, List.getElem?_eq_getElem (by omega)⟩
            obtain ⟨a, f1, s1, hv, h1, h2, h3⟩ := sc_at OP.is hx
            have hu1 : ss[j]? = some u := hu1
            rw [hv] at hu1
            cases hu1
            have l3 := (OP.ok.small x (List.mem_of_getElem? hx)).2.2.1
            refine ⟨rfl, _, rfl, a, _, 2, .ref s1, rfl, rfl, SqT.of (kb.tp _ _ h1), rfl, _, _, rfl, .inr ⟨_, SqT.of (kb.tp _ _ h3), rfl⟩, _, _, rfl, rfl, ?_⟩
            have e : cntS (sc.take (j + 1)) = cntS (sc.take j) + if x.2.2.isEmpty then 0 else 1 := by
              rw [take_snoc hx]; exact cntS_snoc _ _ _ _
            have lt : cntS (sc.take j) ≤ sc.length := Nat.le_trans (List.length_filter_le _ _) (by rw [List.length_take]; omega)
            have l100 := OP.ok.len
            refine ⟨_, rfl, ?_⟩
            by_cases hem : x.2.2 = []
            · refine iteFs (decide_eq_false fun z => by rw [hem] at z; exact absurd z (by decide)) ⟨⟨zs, hz, ?_⟩, kb⟩
              rw [e, hem]; exact lz
            · have hpos : 0 < x.2.2.length := List.length_pos_iff.mpr hem
              refine iteTs (decide_eq_true (by rw [List.length_map]; exact Int.ofNat_lt.mpr hpos)) ⟨_, rfl, zs, hz, by omega, ⟨_, upd_same, ?_⟩, kb.late hD⟩
              rw [e, List.length_append, lz]
              cases hx2 : x.2.2 with
              | nil => exact absurd hx2 hem
              | cons y ys => rfl
          · rintro Hb ⟨⟨zs, hz, lz⟩, kb⟩
            rw [List.take_of_length_le (by omega)] at lz
            refine ⟨_, _, rfl, .inl ⟨_, SqL.of hz, rfl⟩, rfl, _, rfl, ite2 (fun e => ?_) (fun e => ?_)⟩
            · refine ⟨by show 0 ≤ sizeLine; decide, fun R hR => ?_⟩
              have q1 : Kp [] Hb (upd Hb R (.lst [])) := Kp.new hR
              exact ⟨R, o10, rfl, (Ba.keep0 kb).keep0 q1, kb.trans q1, [], [], upd_same, ((Ba.keep0 kb).new hR).1, (fun z => by
                have := kb.at_ _ _ OP.hs (fun z => nomatch z)
                rw [← z, hR] at this; cases this), (fun z => by
                have := kb.at_ _ _ OP.ho (fun z => nomatch z)
                rw [← z, hR] at this; cases this), .nil, (fun x h => nomatch h), by decide, fun _ => rfl⟩
            · refine ⟨rr, o10, rfl, Ba.keep0 kb, kb, rs', rd', kb.at_ _ _ hrr (fun z => nomatch z), rrb, rrS, rrO, ImAll.kp kb ird', sub, lrd', fun c3 => ?_⟩
              exfalso
              rw [lz, c3] at e
              exact absurd e (by decide)
        · rintro σ Hb ⟨rr2, o10', rfl, Bb, kab, rs2, rd2, hrr2, rrb2, rrS2, rrO2, ird2, sub2, lrd2, c3⟩
          have lo8 : i + 1 ≤ lo := hi
          have kbb : Kp [b, sA, oA] H3 Hb := ka.trans (kab.zero)
          have OPb : Opn tbs rd Hb oA sA os ss ops sc := ⟨kab.at_ _ _ OP.ho (fun z => nomatch z), ImAll.kp kab OP.io, kab.at_ _ _ OP.hs (fun z => nomatch z), ImAll.kp kab OP.is, OP.og, OP.ok⟩
          have htb := kbb.at_ _ _ (k13.at_ _ _ ht (by simpa using tb)) (by simp [tb, tS, tO])
          have los : os.length = ops.length := by rw [OP.io.len, List.length_map]
          have lss : ss.length = sc.length := by rw [OP.is.len, List.length_map]
          have l100 := OP.ok.len
          refine ⟨_, rfl, _, rfl, _, rfl, _, rfl, b, c, t, rr2, sA, xs, rs2, tbs, rd2, sc, rfl, Bb, htb, tb, ImAll.kp kbb (ImAll.kp k13 ix), g, hrr2, rrb2, ird2, (fun x h => grd x (sub2 x h)), lrd2, ⟨sb, ss, OPb.hs, OPb.is⟩, OP.ok, by omega, fun a1 pa ea o fs ss1 Hc Bc kc ha1 ip ie nv nnv oko => ?_⟩
          refine ⟨a1, _, rfl, SqT.of ha1, rfl, _, _, rfl, _, _, rfl, rfl, ?_⟩
          have hosc := kc.at_ _ _ OPb.ho (by simpa using ob)
          have hssc := kc.at_ _ _ OPb.hs (by simpa using sb)
          refine ⟨_, rfl, .inl ⟨rfl, _, SqL.of hosc⟩, _, rfl, oA, _, _, rfl, rfl, hosc, by omega, ?_⟩
          have kd : Kp [oA] Hc (upd Hc oA (.lst (os ++ [.ref pa]))) := Kp.updL hosc (by simp)
          have hod : upd Hc oA (.lst (os ++ [.ref pa])) oA = some (.lst (os ++ [.ref pa])) := upd_same
          have hsd := kd.at_ _ _ hssc (by simpa using so)
          have BGd := Bc.keep kd (by simpa using Ne.symm ob) (by simpa using Ne.symm oc0)
          have hrrd := kd.at_ _ _ (kc.at_ _ _ hrr2 (by simpa using rrb2)) (by simpa using rrO2)
          generalize upd Hc oA (.lst (os ++ [.ref pa])) = Hd at kd hod hsd BGd hrrd
          refine ⟨_, rfl, .inl ⟨rfl, _, SqL.of hsd⟩, _, rfl, sA, _, _, rfl, rfl, hsd, by omega, ?_⟩
          have ke : Kp [sA] Hd (upd Hd sA (.lst (ss ++ [.ref ea]))) := Kp.updL hsd (by simp)
          have hse : upd Hd sA (.lst (ss ++ [.ref ea])) sA = some (.lst (ss ++ [.ref ea])) := upd_same
          have hoe := ke.at_ _ _ hod (by simpa using Ne.symm so)
          have BGe := BGd.keep ke (by simpa using Ne.symm sb) (by simpa using Ne.symm sc0)
          have hrre := ke.at_ _ _ hrrd (by simpa using rrS2)
          generalize upd Hd sA (.lst (ss ++ [.ref ea])) = He at ke hse hoe BGe hrre
          have kde : Kp [sA, oA] Hc He := (kd.mono (by simp)).trans (ke.mono (by simp))
          have kbe : Kp [b, sA, oA] Hb He := (kc.mono (by simp)).trans (kde.mono (by simp))
          have k3e : Kp [b, sA, oA] H3 He := kbb.trans kbe
          obtain ⟨f4, s3, l1, lw, rn⟩ := og_small g (fun x h => grd x (sub2 x h)) oko
          have few : cntS (sc ++ [(o.v, fs, ss1)]) ≤ 3 := by
            rw [cntS_snoc]
            have f0 : cntS sc ≤ 3 := OP.ok.few
            by_cases h3 : cntS sc = 3
            · rw [rn (c3 h3)]; exact f0
            · split <;> omega
          have okS : ScOk (sc ++ [(o.v, fs, ss1)]) := scOk_snoc (tbs := tbs) OP.ok nv nnv l1 f4 s3 lw few (by omega)
          have OPe : Opn tbs rd He oA sA (os ++ [.ref pa]) (ss ++ [.ref ea]) (ops ++ [o]) (sc ++ [(o.v, fs, ss1)]) := ⟨hoe, by
            rw [List.map_append]
            exact DtAll.append (ImAll.kp kbe OPb.io) (.cons (Im.kp kde ip) .nil), hse, by
            rw [List.map_append]
            exact DtAll.append (ImAll.kp kbe OPb.is) (.cons (Im.kp kde ie) .nil), OP.og.snoc (.inl ⟨fs, ss1, og_sub sub2 oko, nv, nnv, rfl⟩), okS⟩
          have lsc' : (sc ++ [(o.v, fs, ss1)]).length = i + 1 := by rw [List.length_append, lsc]; rfl
          have ird2e := ImAll.kp kbe ird2
          refine ⟨_, rfl, b, c, 4, rfl, BGe, by decide, by decide, fun r4 Hf r40 r41 BGf kf => ?_⟩
          have stop : ∀ Hx, Bag Hx b c → Kp [b] He Hx → ∃ (rr : Addr) (o8 o9 o10 : Option V), ([some (.ref b), some (.ref t), some (.ref rr2), some (.ref ba), some (.ref oa), some (.ref sA), some (.ref oA), some (.int lo), some (.int (0 + (i : Int))), some (.ref pa), some (.ref ea), none, none, none] : L2.St) = [some (.ref b), some (.ref t), some (.ref rr), some (.ref ba), some (.ref oa), some (.ref sA), some (.ref oA), some (.int lo), o8, o9, o10, none, none, none] ∧ Bag Hx b c ∧ Kp [b, sA, oA] H3 Hx ∧ ∃ (os ss : List V) (ops : List Og) (sc : Sc), Opn tbs rd Hx oA sA os ss ops sc ∧ sc.length = i + 1 ∧ ops.length + lo ≤ 6 + (i + 1) ∧ ∃ (rs' : List V) (rd' : List Blk), Hx rr = some (.lst rs') ∧ rr ≠ b ∧ rr ≠ sA ∧ rr ≠ oA ∧ ImAll Hx 2 rs' (rd'.map dBlk) ∧ (∀ x ∈ rd', x ∈ rd) ∧ rd'.length ≤ 20 := fun Hx Bx kx =>
            ⟨rr2, _, _, _, rfl, Bx, k3e.trans (kx.mono (by simp)), _, _, _, _, ⟨kx.at_ _ _ OPe.ho (by simpa using ob), ImAll.kp kx OPe.io, kx.at_ _ _ OPe.hs (by simpa using sb), ImAll.kp kx OPe.is, OPe.og, OPe.ok⟩, lsc', by rw [List.length_append]; show ops.length + 1 + lo ≤ _; omega, rs2, rd2, kx.at_ _ _ hrre (by simpa using rrb2), rrb2, rrS2, rrO2, ImAll.kp kx ird2e, sub2, lrd2⟩
          refine ⟨rfl, _, rfl, ite2 (fun _ => ?_) (fun _ => iteF (stop Hf BGf kf))⟩
          have hof := kf.at_ _ _ OPe.ho (by simpa using ob)
          have hsf := kf.at_ _ _ OPe.hs (by simpa using sb)
          have isf := ImAll.kp kf OPe.is
          refine ⟨_, rfl, _, _, rfl, .inl ⟨_, SqL.of hof, rfl⟩, _, rfl, _, _, rfl, rfl, _, rfl, _, _, rfl, rfl, _, _, rfl, rfl, _, rfl, ite2 (fun e7 => ?_) (fun _ => stop Hf BGf kf)⟩
          have e7 := of_decide_eq_true e7
          have lose : (os ++ [V.ref pa]).length = ops.length + 1 := by rw [List.length_append, los]; rfl
          rw [lose] at e7
          refine ⟨_, rfl, .inl ⟨rfl, _, SqL.of hof⟩, _, rfl, _, rfl, b, c, sA, _, rfl, BGf, ⟨sb, _, hsf, isf⟩, okS, fun v1 tm1 Hg BGg kg it1 tk1 => ?_⟩
          have hsg := kg.at_ _ _ hsf (by simpa using sb)
          refine ⟨_, rfl, _, rfl, b, c, sA, _, rfl, BGg, ⟨sb, _, hsg, ImAll.kp kg isf⟩, okS, fun v2 tm2 Hh BGh kh it2 tk2 => ⟨by show 3 ≤ sizeLine; decide, fun p hp => ?_⟩⟩
          have q1 : Kp [] Hh (upd Hh p (.tup [.str "same", v1, v2])) := Kp.new hp
          have hpp : upd Hh p (.tup [.str "same", v1, v2]) p = some (.tup [.str "same", v1, v2]) := upd_same
          have BGi := BGh.keep0 q1
          generalize upd Hh p (.tup [.str "same", v1, v2]) = Hi at q1 hpp BGi
          have kei : Kp [b] He Hi := (kf.trans kg).trans (kh.trans q1.zero)
          have hoi := kei.at_ _ _ OPe.ho (by simpa using ob)
          refine ⟨oA, _, _, rfl, rfl, hoi, by rw [lose]; omega, ?_⟩
          have kj : Kp [oA] Hi (upd Hi oA (.lst ((os ++ [.ref pa]) ++ [.ref p]))) := Kp.updL hoi (by simp)
          have hoj : upd Hi oA (.lst ((os ++ [.ref pa]) ++ [.ref p])) oA = some (.lst ((os ++ [.ref pa]) ++ [.ref p])) := upd_same
          have BGj := BGi.keep kj (by simpa using Ne.symm ob) (by simpa using Ne.symm oc0)
          generalize upd Hi oA (.lst ((os ++ [.ref pa]) ++ [.ref p])) = Hj at kj hoj BGj
          have kij : Kp [b, sA, oA] He Hj := (kei.mono (by simp)).trans (kj.mono (by simp))
          have hpj := kj.tp _ _ hpp
          have kgj : Kp [b, oA] Hg Hj := ((kh.trans q1.zero).mono (by simp)).trans (kj.mono (by simp))
          refine ⟨rr2, _, _, _, rfl, BGj, k3e.trans kij, _, _, ops ++ [o] ++ [.same tm1 tm2], _, ⟨hoj, ?_, kj.at_ _ _ (kei.at_ _ _ OPe.hs (by simpa using sb)) (by simpa using so), ImAll.kp kij OPe.is, ?_, okS⟩, lsc', by rw [List.length_append, List.length_append]; show ops.length + 1 + 1 + lo ≤ _; omega, rs2, rd2, kj.at_ _ _ (kei.at_ _ _ hrre (by simpa using rrb2)) (by simpa using rrO2), rrb2, rrS2, rrO2, ImAll.kp kij ird2e, sub2, lrd2⟩
          · rw [List.map_append]
            refine DtAll.append (ImAll.kp kij OPe.io) (.cons (.tup hpj ⟨by simp, ⟨_, hpj⟩⟩ (.cons (.str _ (by decide)) (.cons ((Im.kp kgj it1).mono (by decide)) (.cons ((Im.kp (q1.zero.trans kj) it2).mono (by decide)) .nil)))) .nil)
          · have := OPe.og.snoc (.inr ⟨tm1, tm2, rfl, tk1, tk2, rfl⟩)
            rw [List.append_nil] at this
            exact this
      · rintro σ Ha ⟨rr, o8, o9, o10, rfl, Ba, ka, os, ss, ops, sc, OP, lsc, lops, rs', rd', hrr, rrb, rrS, rrO, ird', sub, lrd'⟩
        rw [Int.toNat_natCast] at lsc lops
        exact ⟨rr, o8, o9, o10, rfl, Ba, ka, os, ss, ops, sc, OP, lsc, by omega⟩
    · rintro σ Hz ⟨rr, o8, o9, o10, rfl, Bz, kz, os, ss, ops, sc, OP, lsc, lops⟩
      have fS : H sA = none := hsA
      have fO : H oA = none := n1.same.free hoA
      have k0z : Kp [b] H Hz := k13.viaM kz fun x hx => by
        simp only [List.mem_cons, List.not_mem_nil, or_false] at hx
        rcases hx with rfl | rfl | rfl
        · exact .inl (by simp)
        · exact .inr fS
        · exact .inr fO
      have los : os.length = ops.length := by rw [OP.io.len, List.length_map]
      refine ⟨_, rfl, _, rfl, _, rfl, b, c, ba, sA, bl, sc, rfl, Bz, Im.kp k0z ib, bg, ⟨sb, ss, OP.hs, OP.is⟩, OP.ok, fun a1 ts adds Hy By ky ip lp => ⟨by show 1 ≤ sizeLine; decide, fun bi0 hbi0 => ?_⟩⟩
      have q1 : Kp [] Hy (upd Hy bi0 (.tup [.ref a1])) := Kp.new hbi0
      have hb0 : upd Hy bi0 (.tup [.ref a1]) bi0 = some (.tup [.ref a1]) := upd_same
      have Bx := By.keep0 q1
      generalize upd Hy bi0 (.tup [.ref a1]) = Hx at q1 hb0 Bx
      have kzx : Kp [b] Hz Hx := ky.trans q1.zero
      have k0x : Kp [b] H Hx := k0z.trans kzx
      have hox := kzx.at_ _ _ OP.ho (by simpa using ob)
      have iox := ImAll.kp kzx OP.io
      refine ⟨_, rfl, oA, os, rfl, SqL.of hox, ?_⟩
      refine for_it (walk_rev (xs := os)) (fun i σ H' => ∃ (sI : Addr) (ssi : List V) (sci : Sc) (bi ai : Addr) (d : PyData) (st : Stm) (u : Bool) (o9' o13 : Option V), σ = [some (.ref b), some (.ref t), some (.ref rr), some (.ref ba), some (.ref oa), some (.ref sI), some (.ref oA), some (.int lo), o8, o9', o10, some (.ref bi), some (.int (if u then 1 else 0)), o13] ∧ Bag H' b c ∧ Kp [b] Hx H' ∧ sI ≠ b ∧ H' sI = some (.lst ssi) ∧ ImAll H' 2 ssi (sci.map dBlk) ∧ OgsR tbs rd (ops.take (ops.length - i)) sci ∧ ScOk sci ∧ H' bi = some (.tup [.ref ai]) ∧ Im H' (9 + 2 * i) (.ref ai) d ∧ LtD id d st ∧ StE d st ∧ NS tbs rd oth bl i sci st u) ⟨sA, ss, sc, bi0, a1, _, _, false, o9, none, rfl, Bx, Kp.refl _, sb, kzx.at_ _ _ OP.hs (by simpa using sb), ImAll.kp kzx OP.is, by rw [Nat.sub_zero, List.take_length]; exact OP.og, OP.ok, hb0, (Im.kp q1 ip).mono (by decide), @LtD.put id bl.1 ts adds, put_ste _ _ _, .put lp⟩ (fun i σ H' _ h => ?_) ?_ ?_
      · obtain ⟨_, _, _, _, _, _, _, _, _, _, _, _, k', _⟩ := h
        exact SqL.of (k'.at_ _ _ hox (by simpa using ob))
      · rintro i u0 σ H1' H2' hi ⟨sI, ssi, sci, bi, ai, d, st, u, o9', o13, rfl, B1, k1, sIb, hsI, isI, ogI, okI, hbi, iai, lts, sds, ns⟩ ⟨rfl, hu1⟩
        have hi : i < os.length := hi
        obtain ⟨e', he, iu⟩ := iox.getV hu1
        rw [List.getElem?_map, los] at he
        obtain ⟨o, ho, rfl⟩ := Option.map_eq_some_iff.mp he
        obtain ⟨pa, _, ys, rfl, e3, hpa, ay⟩ := Dt.tupI iu
        cases e3
        have ly : ys.length ≤ 5 := by rw [ay.len]; cases o <;> simp [Og.dat]
        have k01 : Kp [b] H H2' := k0x.trans k1
        refine ⟨fun σ H' => ∃ (b2 : Addr) (ws : List V) (ds : List PyData) (bd : List Stm) (u' : Bool) (o13 : Option V), σ = [some (.ref b), some (.ref t), some (.ref rr), some (.ref ba), some (.ref oa), some (.ref sI), some (.ref oA), some (.int lo), o8, some (.ref pa), o10, some (.ref b2), some (.int (if u' then 1 else 0)), o13] ∧ Bag H' b c ∧ Kp [b] H2' H' ∧ H' b2 = some (.tup ws) ∧ ws.length ≤ 2 ∧ ImAll H' (9 + 2 * i) ws ds ∧ LtDs id ds bd ∧ StEs ds bd ∧ BdR tbs oth sci st u u' bd, ?_, ?_⟩
        · have stay : ∀ Hx', Bag Hx' b c → Kp [b] H2' Hx' → ∃ (b2 : Addr) (ws : List V) (ds : List PyData) (bd : List Stm) (u' : Bool) (o13' : Option V), ([some (.ref b), some (.ref t), some (.ref rr), some (.ref ba), some (.ref oa), some (.ref sI), some (.ref oA), some (.int lo), o8, some (.ref pa), o10, some (.ref bi), some (.int (if u then 1 else 0)), o13] : L2.St) = [some (.ref b), some (.ref t), some (.ref rr), some (.ref ba), some (.ref oa), some (.ref sI), some (.ref oA), some (.int lo), o8, some (.ref pa), o10, some (.ref b2), some (.int (if u' then 1 else 0)), o13'] ∧ Bag Hx' b c ∧ Kp [b] H2' Hx' ∧ Hx' b2 = some (.tup ws) ∧ ws.length ≤ 2 ∧ ImAll Hx' (9 + 2 * i) ws ds ∧ LtDs id ds bd ∧ StEs ds bd ∧ BdR tbs oth sci st u u' bd := fun Hx' Bx' kx' =>
            ⟨bi, _, [d], [st], u, _, rfl, Bx', kx', kx'.tp _ _ hbi, by simp, .cons (Im.kp kx' iai) .nil, .cons lts .nil, sds.one, .one⟩
          cases u with
          | true => exact ⟨_, rfl, _, _, rfl, rfl, _, rfl, iteF (iteF (stay _ B1 (Kp.refl _)))⟩
          | false =>
            have hoa1 := k01.at_ _ _ hoa (by simpa using oab)
            have lot : ots.length = oth.length := by rw [ioth.len, List.length_map]
            refine ⟨_, rfl, _, _, rfl, rfl, _, rfl, iteT ⟨_, rfl, _, _, rfl, .inl ⟨_, SqL.of hoa1, rfl⟩, _, _, rfl, rfl, _, rfl, ite2 (fun hp => ?_) (fun _ => iteF (stay _ B1 (Kp.refl _)))⟩⟩
            have hpos : 0 < ots.length := by have := of_decide_eq_true hp; omega
            refine ⟨_, rfl, b, c, 3, rfl, B1, by decide, by decide, fun r3 Ha r30 r31 Ba ka => ⟨rfl, _, rfl, ite2 (fun _ => ?_) (fun _ => stay _ Ba ka)⟩⟩
            have k0a : Kp [b] H Ha := k01.trans ka
            have hoaa := ka.at_ _ _ hoa1 (by simpa using oab)
            refine ⟨_, rfl, _, rfl, _, rfl, _, rfl, _, rfl, _, rfl, _, rfl, _, _, rfl, .inl ⟨_, SqL.of hoaa, rfl⟩, b, c, _, rfl, Ba, by omega, by omega, fun rk Hb rk0 rk1 Bb kb => ?_⟩
            obtain ⟨x, hx⟩ : ∃ x, oth[rk.toNat]? = some x := ⟨_, List.getElem?_eq_getElem (by omega)⟩
            have mx := List.mem_of_getElem? hx
            have k0b : Kp [b] H Hb := k0a.trans kb
            obtain ⟨vx, hvx, ivx⟩ := (ImAll.kp k0b ioth).get (i := rk.toNat) (x := dBlk x) (by rw [List.getElem?_map, hx]; rfl)
            obtain ⟨xa, xf, xs', rfl, hxa, _, _⟩ := blk_at ivx
            have lsci := ogI.len
            rw [List.length_take] at lsci
            have k1b : Kp [b] H2' Hb := ka.trans kb
            refine ⟨oa, _, rk, .ref xa, rfl, rfl, SqL.of (k0b.at_ _ _ hoa (by simpa using oab)), atI_of rk0 hvx, b, c, t, sI, xa, .ref rr, xs, tbs, sci, x, rfl, Bb, k0b.at_ _ _ ht (by simpa using tb), tb, ImAll.kp k0b ix, g, ⟨sIb, _, k1b.at_ _ _ hsI (by simpa using sIb), ImAll.kp k1b isI⟩, okI, by omega, ivx, goth x mx, fun a2 d2 st2 Hc Bc kc ip2 lt2 sd2 br2 => ?_⟩
            refine ⟨_, rfl, b, c, 2, rfl, Bc, by decide, by decide, fun r2 Hd r20 r21 Bd kd => ⟨rfl, _, rfl, ite2 (fun _ => ?_) (fun _ => ?_)⟩⟩
            all_goals
              have kcd : Kp [b] H2' Hd := (k1b.trans kc).trans kd
              have ip2d := (Im.kp kd ip2).mono (show 9 ≤ 9 + 2 * i by omega)
              have iad := Im.kp kcd iai
              have hbid := kcd.tp _ _ hbi
            · refine ⟨_, rfl, _, rfl, by show 1 ≤ sizeLine; decide, fun p1 hp1 => ?_⟩
              have q2 : Kp [] Hd (upd Hd p1 (.tup [.ref a2])) := Kp.new hp1
              have e2 : upd Hd p1 (.tup [.ref a2]) p1 = some (.tup [.ref a2]) := upd_same
              generalize upd Hd p1 (.tup [.ref a2]) = He at q2 e2
              refine catA_in (q2.tp _ _ hbid) e2 (by show 2 ≤ sizeLine; decide) fun p2 Hf q3 hp2 => ?_
              have q23 := q2.trans q3
              exact ⟨p2, _, [d, d2], [st, st2], true, _, rfl, Bd.keep0 q23, kcd.trans q23.zero, hp2, by simp, .cons (Im.kp q23 iad) (.cons (Im.kp q23 ip2d) .nil), .app lts lt2, .app sds sd2, .right mx br2⟩
            · refine ⟨_, rfl, by show 1 ≤ sizeLine; decide, fun p1 hp1 => ⟨_, rfl, ?_⟩⟩
              have q2 : Kp [] Hd (upd Hd p1 (.tup [.ref a2])) := Kp.new hp1
              have e2 : upd Hd p1 (.tup [.ref a2]) p1 = some (.tup [.ref a2]) := upd_same
              generalize upd Hd p1 (.tup [.ref a2]) = He at q2 e2
              refine catA_in e2 (q2.tp _ _ hbid) (by show 2 ≤ sizeLine; decide) fun p2 Hf q3 hp2 => ?_
              have q23 := q2.trans q3
              exact ⟨p2, _, [d2, d], [st2, st], true, _, rfl, Bd.keep0 q23, kcd.trans q23.zero, hp2, by simp, .cons (Im.kp q23 ip2d) (.cons (Im.kp q23 iad) .nil), .app lt2 lts, .app sd2 sds, .left mx br2⟩
        · rintro σ H2 ⟨b2, ws, ds, bd, u', o13', rfl, B2, k2, hb2, lws, iws, ltb, sdb, bdr⟩
          have kx2 : Kp [b] Hx H2 := k1.trans k2
          have n1' : ops.length - i = (ops.length - 1 - i) + 1 := by omega
          rw [n1', take_snoc ho] at ogI
          obtain ⟨sc0, ext, og0, ogr, esc⟩ := ogI.inv
          have n2' : ops.length - (i + 1) = ops.length - 1 - i := by omega
          refine ⟨_, rfl, _, rfl, by show 1 ≤ sizeLine; decide, fun p1 hp1 => ?_⟩
          have q2 : Kp [] H2 (upd H2 p1 (.tup [.ref b2])) := Kp.new hp1
          have e2 : upd H2 p1 (.tup [.ref b2]) p1 = some (.tup [.ref b2]) := upd_same
          generalize upd H2 p1 (.tup [.ref b2]) = H3' at q2 e2
          refine catA_in (q2.tp _ _ (kx2.tp _ _ hpa)) e2 (by show ys.length + 1 ≤ sizeLine; omega) fun p2 H4' q3 hp2 => ?_
          refine ⟨by show 1 ≤ sizeLine; decide, fun p3 hp3 => ?_⟩
          have q4 : Kp [] H4' (upd H4' p3 (.tup [.ref p2])) := Kp.new hp3
          have e4 : upd H4' p3 (.tup [.ref p2]) p3 = some (.tup [.ref p2]) := upd_same
          generalize upd H4' p3 (.tup [.ref p2]) = H5' at q4 e4
          have q24 := q2.trans (q3.trans q4)
          have kx5 : Kp [b] Hx H5' := kx2.trans q24.zero
          have hb25 := q24.tp _ _ hb2
          have hp25 := q4.tp _ _ hp2
          have inew : Im H5' (9 + 2 * (i + 1)) (.ref p2) (.tuple (o.dat ++ [.tuple ds])) := .tup hp25 ⟨by rw [List.length_append]; show ys.length + 1 ≤ 1000000; omega, ⟨_, hp25⟩⟩ (DtAll.append ((ImAll.kp kx5 ay).mono (show 2 ≤ 9 + 2 * i + 1 by omega)) (.cons (.tup hb25 ⟨by omega, ⟨_, hb25⟩⟩ (ImAll.kp q24 iws)) .nil))
          have B5 := B2.keep0 q24
          have hpa5 := kx5.tp _ _ hpa
          obtain ⟨tl, etl⟩ := o.dat_kind
          rw [etl] at ay
          obtain ⟨v1, w1, rfl, hv1, _⟩ := ay.consI
          have ev1 := hv1.strI.1
          subst ev1
          have k25 : Kp [b] H2' H5' := k2.trans q24.zero
          refine ⟨_, rfl, pa, _, 0, .str o.kind, rfl, rfl, SqT.of hpa5, at0, rfl, _, rfl, ?_⟩
          rcases ogr with ⟨fs, ss1, oko, nv, nnv, rfl⟩ | ⟨ta, tb', rfl, ha, hb, rfl⟩
          · have ek : (!decide (V.str o.kind = V.str "same")) = true := by
              cases o with
              | same _ _ => exact oko.elim
              | scan _ _ => exact (by decide +kernel : (!decide (V.str ("scan" : Str) = V.str "same")) = true)
              | run _ _ _ => exact (by decide +kernel : (!decide (V.str ("run" : Str) = V.str "same")) = true)
              | seek _ _ _ _ => exact (by decide +kernel : (!decide (V.str ("seek" : Str) = V.str "same")) = true)
              | each _ _ => exact (by decide +kernel : (!decide (V.str ("each" : Str) = V.str "same")) = true)
              | rise _ _ _ => exact (by decide +kernel : (!decide (V.str ("rise" : Str) = V.str "same")) = true)
              | look _ _ _ => exact (by decide +kernel : (!decide (V.str ("look" : Str) = V.str "same")) = true)
            refine iteTs ek ?_
            have isI5 := ImAll.kp k25 isI
            rw [esc, List.map_append] at isI5
            obtain ⟨s0, s1, es, i0⟩ : ∃ s0 s1, ssi = s0 ++ [s1] ∧ ImAll H5' 2 s0 (sc0.map dBlk) := imAll_snoc isI5
            refine ⟨_, rfl, _, rfl, _, rfl, sI, ssi, rfl, SqL.of (k25.at_ _ _ hsI (by simpa using sIb)), fun l hl => ?_⟩
            rw [es, cut_last]
            have q6 : Kp [] H5' (upd H5' l (.lst s0)) := Kp.new hl
            exact ⟨l, s0, sc0, p3, p2, _, _, u', _, _, rfl, B5.keep0 q6, (k1.trans k25).trans q6.zero, (B5.new hl).1, upd_same, ImAll.kp q6 i0, by rw [n2']; exact og0, scOk_pre (esc ▸ okI), q6.tp _ _ e4, Im.kp q6 inew, og_lts (φ := id) (fun _ => rfl) ltb _, og_ste sdb _, .wrap (.inl ⟨fs, ss1, oko, nv, nnv, rfl⟩) (esc ▸ ns) (esc ▸ bdr)⟩
          · refine iteFs (by show (!decide (V.str "same" = V.str "same")) = false; decide +kernel) ?_
            rw [List.append_nil] at esc
            subst esc
            exact ⟨sI, ssi, sci, p3, p2, _, _, u', _, _, rfl, B5, k1.trans k25, sIb, k25.at_ _ _ hsI (by simpa using sIb), ImAll.kp k25 isI, by rw [n2']; exact og0, okI, e4, inew, og_lts (φ := id) (fun _ => rfl) ltb _, og_ste sdb _, .wrap (.inr ⟨ta, tb', rfl, ha, hb, rfl⟩) (by rw [List.append_nil]; exact ns) (by rw [List.append_nil]; exact bdr)⟩
      · rintro σ H1' ⟨sI, ssi, sci, bi, ai, d, st, u, o9', o13, rfl, B1, k1, sIb, hsI, isI, ogI, okI, hbi, iai, lts, sds, ns⟩
        rw [los, Nat.sub_self, List.take_zero] at ogI
        rw [los] at iai ns
        have esc : sci = [] := by
          generalize e : ([] : List Og) = l at ogI
          cases ogI with
          | nil => rfl
          | snoc a b => simp at e
        subst esc
        refine ⟨_, rfl, bi, _, 0, .ref ai, rfl, rfl, SqT.of hbi, at0, ?_⟩
        exact k ai d st _ u H1' B1 (k0x.trans k1) (iai.mono (by omega)) lts sds ns lops
end
end Fm

namespace Fm
open PySem PySem.Spec PyProof.Rows L2
/-! ### _law_open, _law_around -/
theorem Opn.kp {tbs : List (Str × List Str)} {rd : List Blk} {H H' : Hp} {ms : List Addr} {oA sA : Addr} {os ss : List V} {ops : List Og} {sc : Sc} (h : Opn tbs rd H oA sA os ss ops sc) (k : Kp ms H H') (n1 : oA ∉ ms) (n2 : sA ∉ ms) : Opn tbs rd H' oA sA os ss ops sc := ⟨k.at_ _ _ h.ho n1, ImAll.kp k h.io, k.at_ _ _ h.hs n2, ImAll.kp k h.is, h.og, h.ok⟩
/-- what a def asks that draws an opening -/
structure OpIn (b c t r oA sA : Addr) (xs rs : List V) (tbs : List (Str × List Str)) (rd : List Blk) (os ss : List V) (ops : List Og) (sc : Sc) (H : Hp) : Prop where
  bg : Bag H b c
  ht : H t = some (.lst xs)
  tb : t ≠ b
  ix : ImAll H 2 xs (tbs.map dTab)
  g : GoodTs tbs
  hr : H r = some (.lst rs)
  rb : r ≠ b
  ir : ImAll H 2 rs (rd.map dBlk)
  gr : ∀ x ∈ rd, BlkG x
  lr : rd.length ≤ 20
  op : Opn tbs rd H oA sA os ss ops sc
  so : sA ≠ oA
  ob : oA ≠ b
  oc : oA ≠ c
  sb : sA ≠ b
  sc_ : sA ≠ c
  tO : t ≠ oA
  tS : t ≠ sA
  rO : r ≠ oA
  rS : r ≠ sA
theorem OpIn.bag {b c t r oA sA : Addr} {xs rs : List V} {tbs : List (Str × List Str)} {rd : List Blk} {os ss : List V} {ops : List Og} {sc : Sc} {H H' : Hp} (h : OpIn b c t r oA sA xs rs tbs rd os ss ops sc H) (k : Kp [b] H H') (B : Bag H' b c) : OpIn b c t r oA sA xs rs tbs rd os ss ops sc H' :=
  ⟨B, k.at_ _ _ h.ht (by simpa using h.tb), h.tb, ImAll.kp k h.ix, h.g, k.at_ _ _ h.hr (by simpa using h.rb), h.rb, ImAll.kp k h.ir, h.gr, h.lr, h.op.kp k (by simpa using h.ob) (by simpa using h.sb), h.so, h.ob, h.oc, h.sb, h.sc_, h.tO, h.tS, h.rO, h.rS⟩
/-- one more opening, one more entry -/
theorem OpIn.more {b c t r oA sA : Addr} {xs rs : List V} {tbs : List (Str × List Str)} {rd : List Blk} {os ss os' ss' : List V} {ops ops' : List Og} {sc sc' : Sc} {H H' : Hp} (h : OpIn b c t r oA sA xs rs tbs rd os ss ops sc H) (k : Kp [b, oA, sA] H H') (B : Bag H' b c) (o : Opn tbs rd H' oA sA os' ss' ops' sc') : OpIn b c t r oA sA xs rs tbs rd os' ss' ops' sc' H' :=
  ⟨B, k.at_ _ _ h.ht (by simp [h.tb, h.tO, h.tS]), h.tb, ImAll.kp k h.ix, h.g, k.at_ _ _ h.hr (by simp [h.rb, h.rO, h.rS]), h.rb, ImAll.kp k h.ir, h.gr, h.lr, o, h.so, h.ob, h.oc, h.sb, h.sc_, h.tO, h.tS, h.rO, h.rS⟩
def spOpen : Sp := fun vs H Q _ => ∃ (b c t r oA sA : Addr) (xs rs : List V) (tbs : List (Str × List Str)) (rd : List Blk) (os ss : List V) (ops : List Og) (sc : Sc), vs = [.ref b, .ref t, .ref r, .ref oA, .ref sA] ∧ OpIn b c t r oA sA xs rs tbs rd os ss ops sc H ∧ sc.length ≤ 19 ∧ ops.length ≤ 1000 ∧
  ∀ (pa ea : Addr) (o : Og) (fs ss1 : List Str) H', Bag H' b c → Kp [b, oA, sA] H H' → Opn tbs rd H' oA sA (os ++ [.ref pa]) (ss ++ [.ref ea]) (ops ++ [o]) (sc ++ [(o.v, fs, ss1)]) → Q .non H'
section
variable {P : Program} {w : World} {K : PySem.W.Frag} {mg : Str → Option Value} {base : Heap}
theorem ok_open (B : Bi mg) (D : Dfn K mg "_law_open" s__law_open ["_law_bag_here", "_law_tables_here", "_law_readable", "_law_openings", "_law_scope"]) (G_opening : Has P w K mg base CX0 "_law_opening" ["_law_bag_here", "_law_tables_here", "_law_readable", "_law_scope"] 4 spOpeningG) : Has P w K mg base CX0 "_law_open" ["_law_bag_here", "_law_tables_here", "_law_readable", "_law_openings", "_law_scope"] 5 spOpen := by
  refine D.has sc__law_open (fun vs H Q E h => ?_) (fun f cdv A outer s0 H vs Q E hr h => ?_)
  · obtain ⟨b, c, t, r, oA, sA, xs, rs, tbs, rd, os, ss, ops, sc, rfl, _⟩ := h; rfl
  · obtain ⟨b, c, t, r, oA, sA, xs, rs, tbs, rd, os, ss, ops, sc, rfl, I, l19, lops, k⟩ := h
    refine ⟨_, (C8.pss_cut (ps_if (pt_cmpR op_gt (pe_callB call_len (by rfl) B.len PySem.boot_len (pa_cons (pe_lc (own := [("_law_entry", 6)]) (g := gName 6) (by rfl) sc__law_open.nd (pi_list (pv 4)) (blkOk_by (own := [("_law_entry", 6)]) (N := N__law_open) (sc := defScope s__law_open) (by decide +kernel)) (fun _ _ _ _ _ => (pg_name (i := 6) sc__law_open.nd rfl (by first | exact Or.inl rfl | exact Or.inr rfl))) (fun _ _ _ _ _ => pts_one (pt_cmpR op_gt (pe_callB (r := rLen K) call_len (by rfl) B.len PySem.boot_len (pa_cons (pe_ix (r := rIxT K) ix_tup (pv 6) pe_int (fun _ _ => rfl)) pa_nil)) pe_int (nomark _))) (fun _ _ _ _ _ => (pv 6))) pa_nil)) pe_int (nomark _))
  (pss_one (ps_set (i := 2) sc__law_open.nd rfl (by first | exact Or.inl rfl | exact Or.inr rfl) (pe_lst pa_nil)))
  pss_nil)
  (pss_cons (ps_asg (pe_has G_opening (hr.mono (by omega)) (pa_cons (pv 0) (pa_cons (pv 1) (pa_cons (pv 2) (pa_cons (pv 4) pa_nil))))) (pg_tup rfl (pgs_cons (pg_name (i := 5) sc__law_open.nd rfl (by first | exact Or.inl rfl | exact Or.inr rfl)) (pgs_cons (pg_name (i := 6) sc__law_open.nd rfl (by first | exact Or.inl rfl | exact Or.inr rfl)) pgs_nil))))
  (pss_cons (ps_expr (pe_bm PySem.F.plainAttrs_list PySem.F.slot_list_append PySem.F.type_list_append mt_append (pv 3) (pa_cons (pv 5) pa_nil)))
  (pss_one (ps_expr (pe_bm PySem.F.plainAttrs_list PySem.F.slot_list_append PySem.F.type_list_append mt_append (pv 4) (pa_cons (pv 6) pa_nil))))))), ?_⟩
    dsimp only [L2.cxOf, L2.Cx.nox]
    have hsz : sizeLine = 16777216 := rfl
    have OP := I.op
    have Ba := I.bg
    have lss : ss.length = sc.length := by rw [OP.is.len, List.length_map]
    have los : os.length = ops.length := by rw [OP.io.len, List.length_map]
    refine ⟨fun σ H' => ∃ (rr : Addr), σ = [some (.ref b), some (.ref t), some (.ref rr), some (.ref oA), some (.ref sA), none, none] ∧ Kp [] H H' ∧ ∃ (rs' : List V) (rd' : List Blk), H' rr = some (.lst rs') ∧ rr ≠ b ∧ rr ≠ sA ∧ rr ≠ oA ∧ ImAll H' 2 rs' (rd'.map dBlk) ∧ (∀ x ∈ rd', x ∈ rd) ∧ rd'.length ≤ 20 ∧ (2 ≤ cntS sc → rd' = []), ?_, ?_⟩
    · refine ⟨_, rfl, sA, rfl, ⟨_, SqL.of OP.hs⟩, fun D hD => ?_⟩
      obtain ⟨Db, Dc⟩ := Ba.new hD
      refine lc_it (walk_list (xs := ss)) (fun j H' => (∃ zs, H' D = some (.lst zs) ∧ zs.length = cntS (sc.take j)) ∧ Kp [] H H') ⟨⟨[], upd_same, rfl⟩, Kp.new hD⟩ (fun j H' _ h => SqL.of (h.2.at_ _ _ OP.hs fun z => nomatch z)) ?_ ?_
      · rintro j u Hb Hc hj ⟨⟨zs, hz, lz⟩, kb⟩ ⟨rfl, hu1⟩
        have hj : j < ss.length := hj
        obtain ⟨x, hx⟩ : ∃ x, sc[j]? = some x := ⟨_, List.getElem?_eq_getElem (by omega)⟩
        obtain ⟨a, f1, s1, hv, h1, h2, h3⟩ := sc_at OP.is hx
        have hu1 : ss[j]? = some u := hu1
        rw [hv] at hu1
        cases hu1
        have l3 := (OP.ok.small x (List.mem_of_getElem? hx)).2.2.1
        refine ⟨rfl, _, rfl, a, _, 2, .ref s1, rfl, rfl, SqT.of (kb.tp _ _ h1), rfl, _, _, rfl, .inr ⟨_, SqT.of (kb.tp _ _ h3), rfl⟩, _, _, rfl, rfl, ?_⟩
        have e : cntS (sc.take (j + 1)) = cntS (sc.take j) + if x.2.2.isEmpty then 0 else 1 := by
          rw [take_snoc hx]; exact cntS_snoc _ _ _ _
        have lt : cntS (sc.take j) ≤ sc.length := Nat.le_trans (List.length_filter_le _ _) (by rw [List.length_take]; omega)
        refine ⟨_, rfl, ?_⟩
        by_cases hem : x.2.2 = []
        · refine iteFs (decide_eq_false fun z => by rw [hem] at z; exact absurd z (by decide)) ⟨⟨zs, hz, ?_⟩, kb⟩
          rw [e, hem]; exact lz
        · have hpos : 0 < x.2.2.length := List.length_pos_iff.mpr hem
          refine iteTs (decide_eq_true (by rw [List.length_map]; exact Int.ofNat_lt.mpr hpos)) ⟨_, rfl, zs, hz, by omega, ⟨_, upd_same, ?_⟩, kb.late hD⟩
          rw [e, List.length_append, lz]
          cases hx2 : x.2.2 with
          | nil => exact absurd hx2 hem
          | cons y ys => rfl
      · rintro Hb ⟨⟨zs, hz, lz⟩, kb⟩
        rw [List.take_of_length_le (by omega)] at lz
        refine ⟨_, _, rfl, .inl ⟨_, SqL.of hz, rfl⟩, _, _, rfl, rfl, _, rfl, ite2 (fun e => ?_) (fun e => ?_)⟩
        · refine ⟨by show 0 ≤ sizeLine; decide, fun R hR => ?_⟩
          have q1 : Kp [] Hb (upd Hb R (.lst [])) := Kp.new hR
          exact ⟨R, rfl, kb.trans q1, [], [], upd_same, ((Ba.keep0 kb).new hR).1, (fun z => by
            have := kb.at_ _ _ OP.hs (fun z => nomatch z)
            rw [← z, hR] at this; cases this), (fun z => by
            have := kb.at_ _ _ OP.ho (fun z => nomatch z)
            rw [← z, hR] at this; cases this), .nil, (fun x h => nomatch h), by decide, fun _ => rfl⟩
        · refine ⟨r, rfl, kb, rs, rd, kb.at_ _ _ I.hr (fun z => nomatch z), I.rb, I.rS, I.rO, ImAll.kp kb I.ir, (fun x h => h), I.lr, fun c2 => ?_⟩
          exfalso
          apply e
          rw [lz]
          exact decide_eq_true (by omega)
    · rintro σ Hb ⟨rr2, rfl, kab, rs2, rd2, hrr2, rrb2, rrS2, rrO2, ird2, sub2, lrd2, c2⟩
      have Ib := I.bag kab.zero (Ba.keep0 kab)
      have Bb := Ib.bg
      have OPb := Ib.op
      refine ⟨_, rfl, _, rfl, _, rfl, _, rfl, b, c, t, rr2, sA, xs, rs2, tbs, rd2, sc, rfl, Bb, Ib.ht, Ib.tb, Ib.ix, I.g, hrr2, rrb2, ird2, (fun x h => I.gr x (sub2 x h)), lrd2, ⟨I.sb, ss, OPb.hs, OPb.is⟩, OP.ok, by omega, fun a1 pa ea o fs ss1 Hc Bc kc ha1 ip ie nv nnv oko => ?_⟩
      refine ⟨a1, _, rfl, SqT.of ha1, rfl, _, _, rfl, _, _, rfl, rfl, ?_⟩
      have hosc := kc.at_ _ _ OPb.ho (by simpa using I.ob)
      have hssc := kc.at_ _ _ OPb.hs (by simpa using I.sb)
      refine ⟨_, rfl, .inl ⟨rfl, _, SqL.of hosc⟩, _, rfl, oA, _, _, rfl, rfl, hosc, by omega, ?_⟩
      have kd : Kp [oA] Hc (upd Hc oA (.lst (os ++ [.ref pa]))) := Kp.updL hosc (by simp)
      have hod : upd Hc oA (.lst (os ++ [.ref pa])) oA = some (.lst (os ++ [.ref pa])) := upd_same
      have hsd := kd.at_ _ _ hssc (by simpa using I.so)
      have BGd := Bc.keep kd (by simpa using Ne.symm I.ob) (by simpa using Ne.symm I.oc)
      generalize upd Hc oA (.lst (os ++ [.ref pa])) = Hd at kd hod hsd BGd ⊢
      refine ⟨_, rfl, .inl ⟨rfl, _, SqL.of hsd⟩, _, rfl, sA, _, _, rfl, rfl, hsd, by omega, ?_⟩
      have ke : Kp [sA] Hd (upd Hd sA (.lst (ss ++ [.ref ea]))) := Kp.updL hsd (by simp)
      have hse : upd Hd sA (.lst (ss ++ [.ref ea])) sA = some (.lst (ss ++ [.ref ea])) := upd_same
      have hoe := ke.at_ _ _ hod (by simpa using Ne.symm I.so)
      have BGe := BGd.keep ke (by simpa using Ne.symm I.sb) (by simpa using Ne.symm I.sc_)
      generalize upd Hd sA (.lst (ss ++ [.ref ea])) = He at ke hse hoe BGe ⊢
      have kde : Kp [b, oA, sA] Hc He := (kd.mono (by simp)).trans (ke.mono (by simp))
      have kbe : Kp [b, oA, sA] Hb He := (kc.mono (by simp)).trans kde
      obtain ⟨f4, s3, l1, lw, rn⟩ := og_small I.g (fun x h => I.gr x (sub2 x h)) oko
      have few : cntS (sc ++ [(o.v, fs, ss1)]) ≤ 3 := by
        rw [cntS_snoc]
        have f0 : cntS sc ≤ 3 := OP.ok.few
        by_cases h3 : 2 ≤ cntS sc
        · rw [rn (c2 h3)]; exact f0
        · split <;> omega
      have okS : ScOk (sc ++ [(o.v, fs, ss1)]) := scOk_snoc (tbs := tbs) OP.ok nv nnv l1 f4 s3 lw few (by omega)
      exact k pa ea o fs ss1 He BGe (kab.zero.trans kbe) ⟨hoe, by
        rw [List.map_append]
        exact DtAll.append (ImAll.kp kbe OPb.io) (.cons (Im.kp kde ip) .nil), hse, by
        rw [List.map_append]
        exact DtAll.append (ImAll.kp kbe OPb.is) (.cons (Im.kp kde ie) .nil), OP.og.snoc (.inl ⟨fs, ss1, og_sub sub2 oko, nv, nnv, rfl⟩), okS⟩
end
end Fm

namespace Fm
open PySem PySem.Spec PyProof.Rows L2
/-! ### _law_around -/
def spAround : Sp := fun vs H Q _ => ∃ (b c t r : Addr) (xs rs : List V) (tbs : List (Str × List Str)) (rd : List Blk) (lo hi : Nat), vs = [.ref b, .ref t, .ref r, .int (lo : Nat), .int (hi : Nat)] ∧ lo ≤ hi ∧ hi ≤ 4 ∧ Bag H b c ∧ H t = some (.lst xs) ∧ t ≠ b ∧ ImAll H 2 xs (tbs.map dTab) ∧ GoodTs tbs ∧ H r = some (.lst rs) ∧ r ≠ b ∧ ImAll H 2 rs (rd.map dBlk) ∧ (∀ x ∈ rd, BlkG x) ∧ rd.length ≤ 20 ∧
  ∀ (a oA sA : Addr) (os ss : List V) (ops : List Og) (sc : Sc) H', Kp [b] H H' → H' a = some (.tup [.ref oA, .ref sA]) → OpIn b c t r oA sA xs rs tbs rd os ss ops sc H' → H oA = none → H sA = none → sc.length ≤ hi → ops.length ≤ 2 * hi → Q (.ref a) H'
section
variable {P : Program} {w : World} {K : PySem.W.Frag} {mg : Str → Option Value} {base : Heap}
theorem ok_around (B : Bi mg) (D : Dfn K mg "_law_around" s__law_around ["_law_bag_here", "_law_tables_here", "_law_readable", "_law_least", "_law_most"]) (G_pick : Has P w K mg base CX0 "_law_pick" ["_law_bag_here", "_law_many"] 1 spPick) (G_open : Has P w K mg base CX0 "_law_open" ["_law_bag_here", "_law_tables_here", "_law_readable", "_law_openings", "_law_scope"] 5 spOpen) (G_term : Has P w K mg base CX0 "_law_term" ["_law_bag_here", "_law_scope"] 3 spLTerm) : Has P w K mg base CX0 "_law_around" ["_law_bag_here", "_law_tables_here", "_law_readable", "_law_least", "_law_most"] 6 spAround := by
  refine D.has sc__law_around (fun vs H Q E h => ?_) (fun f cdv A outer s0 H vs Q E hr h => ?_)
  · obtain ⟨b, c, t, r, xs, rs, tbs, rd, lo, hi, rfl, _⟩ := h; rfl
  · obtain ⟨b, c, t, r, xs, rs, tbs, rd, lo, hi, rfl, lh, h4, BG, ht, tb, ix, g, hrd, rb, ir, gr, lr, k⟩ := h
    refine ⟨_, (pss_cons (ps_set (i := 5) sc__law_around.nd rfl (by first | exact Or.inl rfl | exact Or.inr rfl) (pe_lst pa_nil))
  (pss_cons (ps_set (i := 6) sc__law_around.nd rfl (by first | exact Or.inl rfl | exact Or.inr rfl) (pe_lst pa_nil))
  (pss_cons (ps_for PassesOwn.never rfl (pi_range1 rfl B.range (pa_cons (pe_op op_add (pv 3) (pe_has G_pick (hr.mono (by omega)) (pa_cons (pv 0) (pa_cons (pe_op op_sub (pe_op op_add (pv 4) pe_int) (pv 3)) pa_nil)))) pa_nil)) (pg_name (i := 7) sc__law_around.nd rfl (by first | exact Or.inl rfl | exact Or.inr rfl))
  (pss_cons (ps_expr (pe_has G_open (hr.mono (by omega)) (pa_cons (pv 0) (pa_cons (pv 1) (pa_cons (pv 2) (pa_cons (pv 5) (pa_cons (pv 6) pa_nil)))))))
  (pss_one (ps_if (pt_cmpR op_eq (pe_has G_pick (hr.mono (by omega)) (pa_cons (pv 0) (pa_cons pe_int pa_nil))) pe_int (nomark _))
  (pss_one (ps_expr (pe_bm PySem.F.plainAttrs_list PySem.F.slot_list_append PySem.F.type_list_append mt_append (pv 5) (pa_cons (pe_tup (pa_cons pe_str (pa_cons (pe_has G_term (hr.mono (by omega)) (pa_cons (pv 0) (pa_cons (pv 6) pa_nil))) (pa_cons (pe_has G_term (hr.mono (by omega)) (pa_cons (pv 0) (pa_cons (pv 6) pa_nil))) pa_nil)))) pa_nil))))
  pss_nil))))
  (pss_one (ps_ret (pe_tup (pa_cons (pv 5) (pa_cons (pv 6) pa_nil)))))))), ?_⟩
    dsimp only [L2.cxOf, L2.Cx.nox]
    have hsz : sizeLine = 16777216 := rfl
    refine ⟨by show 0 ≤ sizeLine; decide, fun oA hoA => ?_⟩
    have n1 : Kp [] H (upd H oA (.lst [])) := Kp.new hoA
    have ho1 : upd H oA (.lst []) oA = some (.lst []) := upd_same
    obtain ⟨ob, oc⟩ := BG.new hoA
    have B1 := BG.keep0 n1
    generalize upd H oA (.lst []) = H1 at n1 ho1 B1 ⊢
    refine ⟨by show 0 ≤ sizeLine; decide, fun sA hsA => ?_⟩
    have n2 : Kp [] H1 (upd H1 sA (.lst [])) := Kp.new hsA
    have hs2 : upd H1 sA (.lst []) sA = some (.lst []) := upd_same
    obtain ⟨sb, sc0⟩ := B1.new hsA
    have B2 := B1.keep0 n2
    have so : sA ≠ oA := fun z => by rw [z, ho1] at hsA; cases hsA
    have ho2 := n2.at_ _ _ ho1 (fun z => nomatch z)
    have sA0 : H sA = none := n1.same.free hsA
    generalize upd H1 sA (.lst []) = H2 at n2 hs2 B2 ho2 ⊢
    have n12 := n1.trans n2
    have I2 : OpIn b c t r oA sA xs rs tbs rd [] [] [] [] H2 := ⟨B2, n12.at_ _ _ ht (fun z => nomatch z), tb, ImAll.kp n12 ix, g, n12.at_ _ _ hrd (fun z => nomatch z), rb, ImAll.kp n12 ir, gr, lr, ⟨ho2, .nil, hs2, .nil, .nil, ⟨List.nodup_nil, (fun x h => nomatch h), Nat.zero_le _, Nat.zero_le _⟩⟩, so, ob, oc, sb, sc0, (fun z => by rw [z, hoA] at ht; cases ht), (fun z => by rw [z, sA0] at ht; cases ht), (fun z => by rw [z, hoA] at hrd; cases hrd), (fun z => by rw [z, sA0] at hrd; cases hrd)⟩
    refine ⟨_, rfl, _, rfl, _, rfl, _, _, rfl, rfl, _, rfl, _, _, rfl, rfl, ?_⟩
    refine ⟨b, c, _, rfl, I2.bg, by omega, by omega, fun r1 H3 r10 r11 B3 k3 => ?_⟩
    have I3 := I2.bag k3 B3
    have k03 : Kp [b] H H3 := n12.zero.trans k3
    obtain ⟨m, rfl⟩ := Int.eq_ofNat_of_zero_le r10
    refine ⟨_, _, rfl, rfl, (lo : Int) + (m : Nat), rfl, by omega, by omega, ?_⟩
    refine for_range (lo := 0) (n := ((lo : Int) + (m : Nat)).toNat) (fun i σ H' => (∃ o7, σ = [some (.ref b), some (.ref t), some (.ref r), some (.int (lo : Nat)), some (.int (hi : Nat)), some (.ref oA), some (.ref sA), o7]) ∧ Kp [b, oA, sA] H3 H' ∧ ∃ (os ss : List V) (ops : List Og) (sc : Sc), OpIn b c t r oA sA xs rs tbs rd os ss ops sc H' ∧ sc.length = i ∧ ops.length ≤ 2 * i) ⟨⟨_, rfl⟩, Kp.refl _, [], [], [], [], I3, rfl, Nat.le_refl _⟩ ?_ ?_
    · rintro i σ Ha hi' ⟨⟨o7, rfl⟩, ka, os, ss, ops, sc, Ia, lsc, lops⟩
      have hi4 : i < 4 := by omega
      refine ⟨_, rfl, _, rfl, _, rfl, _, rfl, _, rfl, b, c, t, r, oA, sA, xs, rs, tbs, rd, os, ss, ops, sc, rfl, Ia, by omega, by omega, fun pa ea o fs ss1 Hb Bb kb OPb => ?_⟩
      have Ib := Ia.more kb Bb OPb
      refine ⟨_, rfl, b, c, 4, rfl, Ib.bg, by decide, by decide, fun r4 Hc r40 r41 Bc kc => ?_⟩
      have Ic := Ib.bag kc Bc
      have kac : Kp [b, oA, sA] H3 Hc := (ka.trans kb).trans (kc.mono (by simp))
      refine ⟨rfl, _, rfl, ite2 (fun _ => ?_) (fun _ => ⟨⟨_, rfl⟩, kac, _, _, _, _, Ic, by rw [List.length_append, lsc]; rfl, by rw [List.length_append]; show ops.length + 1 ≤ _; omega⟩)⟩
      have OPc := Ic.op
      have los : (os ++ [V.ref pa]).length = ops.length + 1 := by rw [OPc.io.len, List.length_map, List.length_append]; rfl
      refine ⟨_, rfl, .inl ⟨rfl, _, SqL.of OPc.ho⟩, _, rfl, _, rfl, b, c, sA, _, rfl, Bc, ⟨Ic.sb, _, OPc.hs, OPc.is⟩, OPc.ok, fun v1 tm1 Hd Bd kd it1 tk1 => ?_⟩
      have Id := Ic.bag kd Bd
      refine ⟨_, rfl, _, rfl, b, c, sA, _, rfl, Bd, ⟨Ic.sb, _, Id.op.hs, Id.op.is⟩, OPc.ok, fun v2 tm2 He Be ke it2 tk2 => ⟨by show 3 ≤ sizeLine; decide, fun p hp => ?_⟩⟩
      have Ie := Id.bag ke Be
      have q1 : Kp [] He (upd He p (.tup [.str "same", v1, v2])) := Kp.new hp
      have hpp : upd He p (.tup [.str "same", v1, v2]) p = some (.tup [.str "same", v1, v2]) := upd_same
      have If := Ie.bag q1.zero (Be.keep0 q1)
      generalize upd He p (.tup [.str "same", v1, v2]) = Hf at q1 hpp If ⊢
      refine ⟨oA, _, _, rfl, rfl, If.op.ho, by rw [los]; omega, ?_⟩
      have kj : Kp [oA] Hf (upd Hf oA (.lst ((os ++ [.ref pa]) ++ [.ref p]))) := Kp.updL If.op.ho (by simp)
      have hoj : upd Hf oA (.lst ((os ++ [.ref pa]) ++ [.ref p])) oA = some (.lst ((os ++ [.ref pa]) ++ [.ref p])) := upd_same
      have Bj := If.bg.keep kj (by simpa using Ne.symm ob) (by simpa using Ne.symm oc)
      generalize upd Hf oA (.lst ((os ++ [.ref pa]) ++ [.ref p])) = Hj at kj hoj Bj ⊢
      have kj' : Kp [b, oA, sA] Hf Hj := kj.mono (by simp)
      have hpj := kj.tp _ _ hpp
      have kdj : Kp [b, oA, sA] Hd Hj := (ke.mono (by simp)).trans (q1.zero.trans kj')
      have OPj : Opn tbs rd Hj oA sA ((os ++ [.ref pa]) ++ [.ref p]) (ss ++ [.ref ea]) ((ops ++ [o]) ++ [.same tm1 tm2]) (sc ++ [(o.v, fs, ss1)]) := by
        refine ⟨hoj, ?_, kj.at_ _ _ If.op.hs (by simpa using so), ImAll.kp kj If.op.is, ?_, If.op.ok⟩
        · rw [List.map_append]
          exact DtAll.append (ImAll.kp kj If.op.io) (.cons (.tup hpj ⟨by simp, ⟨_, hpj⟩⟩ (.cons (.str _ (by decide)) (.cons ((Im.kp kdj it1).mono (by decide)) (.cons ((Im.kp (q1.zero.trans kj') it2).mono (by decide)) .nil)))) .nil)
        · have := If.op.og.snoc (.inr ⟨tm1, tm2, rfl, tk1, tk2, rfl⟩)
          rw [List.append_nil] at this
          exact this
      refine ⟨⟨_, rfl⟩, kac.trans ((kd.mono (by simp)).trans kdj), _, _, _, _, If.more kj' Bj OPj, by rw [List.length_append, lsc]; rfl, by rw [List.length_append, List.length_append]; show ops.length + 1 + 1 ≤ _; omega⟩
    · rintro σ Ha ⟨⟨o7, rfl⟩, ka, os, ss, ops, sc, Ia, lsc, lops⟩
      refine ⟨_, rfl, _, rfl, by show 2 ≤ sizeLine; decide, fun a ha => ?_⟩
      have q1 : Kp [] Ha (upd Ha a (.tup [.ref oA, .ref sA])) := Kp.new ha
      have kk : Kp [b] H (upd Ha a (.tup [.ref oA, .ref sA])) := (k03.viaM ka fun x hx => by
        simp only [List.mem_cons, List.not_mem_nil, or_false] at hx
        rcases hx with rfl | rfl | rfl
        · exact .inl (by simp)
        · exact .inr hoA
        · exact .inr sA0).trans q1.zero
      exact k a oA sA os ss ops sc _ kk upd_same (Ia.bag q1.zero (Ia.bg.keep0 q1)) hoA sA0 (by omega) (by omega)
end
end Fm

namespace Fm
open PySem PySem.Spec PyProof.Rows L2
/-! ### plain: statements that are right but for the order of puts and reads, and for their number -/
inductive RT (tbs : List (Str × List Str)) (rd bs : List Blk) : Sc → Stm → Prop
  | put {sc : Sc} {bl : Blk} {ts : List Tm} {adds : List (List Prd)} : bl ∈ bs → LPutOk sc bl ts adds → RT tbs rd bs sc (.put bl.1 ts adds)
  | wrap {sc ext : Sc} {o : Og} {bd : List Stm} : OgR tbs rd sc o ext → BodyOk bd → (∀ s ∈ bd, RT tbs rd bs (sc ++ ext) s) → RT tbs rd bs sc (o.st bd)
theorem puts_og (o : Og) (bd : List Stm) : putsS (o.st bd) = putsB bd := by cases o <;> simp only [Og.st, putsS]
theorem sz_og (o : Og) (bd : List Stm) : szS (o.st bd) = 1 + szB bd := by cases o <;> simp only [Og.st, szS]
structure Cnd (rd : List Blk) (top : Nat) (ps : List Str) (z : Nat) (cs : Cs) : Prop where
  sn : cs.seen + z ≤ 40
  nd : ps.Nodup
  pu : ∀ b ∈ ps, b ∉ cs.nm ∧ (∀ y ∈ rd, y.1 ≠ b) ∧ top ∉ puN cs b
  rd : ∀ x ∈ rd, ∃ t, lkA cs.pu x.1 = some [t] ∧ t ≠ top
structure Pst (rd : List Blk) (top : Nat) (ps : List Str) (z : Nat) (cs cs' : Cs) : Prop where
  sn : cs'.seen = cs.seen + z
  nm : ∀ x ∈ cs'.nm, x ∈ cs.nm ∨ ∃ y ∈ rd, y.1 = x
  ot : ∀ x, x ∉ ps → lkA cs'.pu x = lkA cs.pu x
  pu : ∀ b ∈ ps, lkA cs'.pu b = some (puN cs b ++ [top])
theorem Cnd.fst {rd : List Blk} {top : Nat} {ps qs : List Str} {z y : Nat} {cs : Cs} (h : Cnd rd top (ps ++ qs) (z + y) cs) : Cnd rd top ps z cs :=
  ⟨by have := h.sn; omega, (List.nodup_append.mp h.nd).1, fun b hb => h.pu b (List.mem_append_left _ hb), h.rd⟩
theorem Cnd.snd {rd : List Blk} {top : Nat} {ps qs : List Str} {z y : Nat} {cs cs1 : Cs} (h : Cnd rd top (ps ++ qs) (z + y) cs) (p : Pst rd top ps z cs cs1) : Cnd rd top qs y cs1 := by
  obtain ⟨n1, n2, n3⟩ := List.nodup_append.mp h.nd
  refine ⟨by have := h.sn; have := p.sn; omega, n2, fun b hb => ?_, fun x hx => ?_⟩
  · obtain ⟨a1, a2, a3⟩ := h.pu b (List.mem_append_right _ hb)
    refine ⟨fun z => ?_, a2, ?_⟩
    · rcases p.nm b z with z | ⟨y, hy, e⟩
      · exact a1 z
      · exact a2 y hy e
    · have : b ∉ ps := fun z => n3 b z b hb rfl
      unfold puN
      rw [p.ot b this]; exact a3
  · obtain ⟨t, e, n⟩ := h.rd x hx
    refine ⟨t, ?_, n⟩
    rw [p.ot x.1 fun z => (h.pu x.1 (List.mem_append_left _ z)).2.1 x hx rfl]; exact e
theorem Pst.app {rd : List Blk} {top : Nat} {ps qs : List Str} {z y : Nat} {cs cs1 cs2 : Cs} (nd : (ps ++ qs).Nodup) (p : Pst rd top ps z cs cs1) (q : Pst rd top qs y cs1 cs2) : Pst rd top (ps ++ qs) (z + y) cs cs2 := by
  obtain ⟨n1, n2, n3⟩ := List.nodup_append.mp nd
  refine ⟨by have := p.sn; have := q.sn; omega, fun x hx => ?_, fun x hx => ?_, fun b hb => ?_⟩
  · rcases q.nm x hx with h | h
    · exact p.nm x h
    · exact .inr h
  · rw [q.ot x fun z => hx (List.mem_append_right _ z), p.ot x fun z => hx (List.mem_append_left _ z)]
  · rcases List.mem_append.mp hb with hb | hb
    · rw [q.ot b fun z => n3 b hb b z rfl]; exact p.pu b hb
    · rw [q.pu b hb]
      unfold puN
      rw [p.ot b fun z => n3 b z b hb rfl]
theorem ckl_of {E : CEnv} {top n k : Nat} {rd : List Blk} {ar : Ar} : ∀ {ss : List Stm}, (∀ s ∈ ss, ∀ cs, Cnd rd top (putsS s) (szS s) cs → ∃ cs', Ck E top n k ar cs s cs' ∧ Pst rd top (putsS s) (szS s) cs cs') → ∀ cs, Cnd rd top (putsB ss) (szB ss) cs → ∃ cs', CkL E top n k ar cs ss cs' ∧ Pst rd top (putsB ss) (szB ss) cs cs'
  | [], _, cs, h => ⟨cs, .nil, rfl, fun x hx => .inl hx, fun x _ => rfl, fun b hb => nomatch hb⟩
  | s :: ss, ih, cs, h => by
    rw [putsB, szB] at h ⊢
    obtain ⟨cs1, c1, p1⟩ := ih s List.mem_cons_self cs h.fst
    obtain ⟨cs2, c2, p2⟩ := ckl_of (fun x hx => ih x (List.mem_cons_of_mem _ hx)) cs1 (h.snd p1)
    exact ⟨cs2, .cons c1 c2, p1.app h.nd p2⟩
structure EnT (E : CEnv) (tbs : List (Str × List Str)) (rd bs : List Blk) : Prop where
  tabs : E.tabs = tbs
  nd : (tbs.map (·.1)).Nodup
  eb : ∀ x ∈ bs, lkA E.blks x.1 = some x.2
  er : ∀ x ∈ rd, lkA E.blks x.1 = some x.2 ∧ 1 ≤ x.2.2.length
theorem dp_le {bd : List Stm} {s : Stm} (h : s ∈ bd) : dpS s ≤ dpB bd := by
  induction bd with
  | nil => exact nomatch h
  | cons x xs ih =>
    rw [dpB]
    rcases List.mem_cons.mp h with rfl | h
    · exact Nat.le_max_left _ _
    · exact Nat.le_trans (ih h) (Nat.le_max_right _ _)
theorem dp_og (o : Og) (bd : List Stm) : dpS (o.st bd) = dpB bd + 1 := by cases o <;> simp only [Og.st, dpS]
theorem rt_ck {E : CEnv} {tbs : List (Str × List Str)} {rd bs : List Blk} {top : Nat} (en : EnT E tbs rd bs) {sc : Sc} {s : Stm} (h : RT tbs rd bs sc s) : ∀ n k, dpS s ≤ n → k + dpS s ≤ 8 → ∀ cs, Cnd rd top (putsS s) (szS s) cs → ∃ cs', Ck E top n k (arS sc) cs s cs' ∧ Pst rd top (putsS s) (szS s) cs cs' := by
  induction h with
  | @put sc bl ts adds hb lp =>
    intro n k hn hk cs c
    rw [putsS, szS] at c ⊢
    obtain ⟨a1, a2, a3⟩ := c.pu bl.1 List.mem_cons_self
    refine ⟨_, put_ck (en.eb bl hb) (by omega) (by have := c.sn; omega) a1 a3 lp, rfl, fun x hx => .inl hx, fun x hx => pu_put.2 x (by simpa using hx), fun b hb' => ?_⟩
    rw [List.mem_singleton.mp hb']; exact pu_put.1
  | @wrap sc ext o bd og bo _ ih =>
    intro n k hn hk cs c
    rw [dp_og] at hn hk
    rw [puts_og, sz_og] at c ⊢
    obtain ⟨n, rfl⟩ : ∃ m, n = m + 1 := ⟨n - 1, by omega⟩
    obtain ⟨nm', h1, h2⟩ := og_ck (E := E) (n := n) (bd := bd) (top := top) (cs := cs) en.tabs en.nd en.er og (show k ≤ 8 by omega) (by have := c.sn; omega) bo c.rd
    have c2 : Cnd rd top (putsB bd) (szB bd) { cs.see with nm := nm' } := by
      refine ⟨by have := c.sn; show cs.seen + 1 + _ ≤ 40; omega, c.nd, fun b hb => ?_, c.rd⟩
      obtain ⟨a1, a2, a3⟩ := c.pu b hb
      exact ⟨fun z => (h1 b z).elim a1 fun ⟨y, hy, e⟩ => a2 y hy e, a2, a3⟩
    obtain ⟨cs', d1, d2⟩ := ckl_of (E := E) (top := top) (n := n) (k := k + 1) (ar := arS (sc ++ ext)) (fun s hs cs => ih s hs n (k + 1) (by have := dp_le hs; omega) (by have := dp_le hs; omega) cs) _ c2
    refine ⟨cs', h2 _ d1, ?_, fun x hx => ?_, d2.ot, d2.pu⟩
    · have := d2.sn
      show cs'.seen = cs.seen + (1 + szB bd)
      rw [this]; show cs.seen + 1 + _ = _; omega
    · rcases d2.nm x hx with h | h
      · exact h1 x h
      · exact .inr h
/-- a drawn top statement without branches is one -/
theorem NS.rt {tbs : List (Str × List Str)} {rd bs : List Blk} {bl : Blk} (hb : bl ∈ bs) {d : Nat} {sc : Sc} {s : Stm} {u : Bool} (h : NS tbs rd [] bl d sc s u) : RT tbs rd bs sc s ∧ putsS s = [bl.1] ∧ szS s = d + 1 ∧ dpS s = d := by
  induction h with
  | put lp => exact ⟨.put hb lp, by rw [putsS], by rw [szS], by rw [dpS]⟩
  | @wrap d sc ext o s u u' bd og _ br ih =>
    obtain ⟨i1, i2, i3, i4⟩ := ih
    cases br with
    | one =>
      refine ⟨.wrap og ⟨Nat.le_refl 1, (by decide : 1 ≤ 8)⟩ fun x hx => by rw [List.mem_singleton.mp hx]; exact i1, ?_, ?_, ?_⟩
      · rw [puts_og, putsB, putsB, i2]; rfl
      · rw [sz_og, szB, szB, i3]; omega
      · rw [dp_og, dpB, dpB, i4]; omega
    | right hb _ => exact nomatch hb
    | left hb _ => exact nomatch hb
/-- top statements behind the one that fills -/
theorem tops_rt {E : CEnv} {tbs : List (Str × List Str)} {rd bs : List Blk} (en : EnT E tbs rd bs) : ∀ {ss : List Stm} {i : Nat} {cs : Cs}, (∀ s ∈ ss, RT tbs rd bs [] s ∧ dpS s ≤ 7 ∧ (putsS s).Nodup ∧ ∀ b ∈ putsS s, ∀ y ∈ rd, y.1 ≠ b) → cs.seen + szB ss ≤ 40 → (∀ x ∈ cs.nm, ∃ y ∈ rd, y.1 = x) → (∀ y ∈ rd, ∃ t, t < i ∧ lkA cs.pu y.1 = some [t]) → (∀ b t, t ∈ puN cs b → t < i) → ∃ cs', CkT E 8 i cs ss cs'
  | [], i, cs, _, _, _, _, _ => ⟨cs, .nil⟩
  | s :: ss, i, cs, h, hs, hn, hr, hp => by
    rw [szB] at hs
    obtain ⟨r, d7, nd, pr⟩ := h s List.mem_cons_self
    obtain ⟨cs1, c1, p1⟩ := rt_ck (top := i) en r 8 1 (by omega) (by omega) cs ⟨by omega, nd, fun b hb => ⟨fun z => let ⟨y, hy, e⟩ := hn b z; pr b hb y hy e, pr b hb, fun z => Nat.lt_irrefl _ (hp b i z)⟩, fun x hx => let ⟨t, a, e⟩ := hr x hx; ⟨t, e, by omega⟩⟩
    obtain ⟨cs2, c2⟩ := tops_rt en (ss := ss) (i := i + 1) (cs := cs1) (fun x hx => h x (List.mem_cons_of_mem _ hx)) (by rw [p1.sn]; omega) (fun x hx => (p1.nm x hx).elim (hn x) id) (fun y hy => by
      obtain ⟨t, a, e⟩ := hr y hy
      exact ⟨t, by omega, by rw [p1.ot y.1 fun z => pr _ z y hy rfl]; exact e⟩) (fun b t ht => by
      by_cases e : b ∈ putsS s
      · unfold puN at ht
        rw [p1.pu b e] at ht
        rcases List.mem_append.mp ht with ht | ht
        · have := hp b t ht; omega
        · rw [List.mem_singleton.mp ht]; omega
      · unfold puN at ht
        rw [p1.ot b e] at ht
        have := hp b t ht
        omega)
    exact ⟨cs2, .cons c1 c2⟩
/-- the whole program: the first top statement puts the block that the others read -/
theorem prog_rt {tbs : List (Str × List Str)} {rd bs : List Blk} {s0 : Stm} {ss : List Stm} {b0 : Str} (bok : BlksOk tbs bs) (en0 : EnT ⟨tbs, bs⟩ tbs [] bs) (en : EnT ⟨tbs, bs⟩ tbs rd bs) (h0 : RT tbs [] bs [] s0) (p0 : putsS s0 = [b0]) (d0 : dpS s0 ≤ 7) (hrd : ∀ y ∈ rd, y.1 = b0)
    (h : ∀ s ∈ ss, RT tbs rd bs [] s ∧ dpS s ≤ 7 ∧ (putsS s).Nodup ∧ ∀ b ∈ putsS s, ∀ y ∈ rd, y.1 ≠ b) (sz : szB (s0 :: ss) ≤ 40) (l12 : ss.length + 1 ≤ 12) : ProgOk 8 tbs bs (s0 :: ss) := by
  rw [szB] at sz
  obtain ⟨cs1, c1, p1⟩ := rt_ck (top := 0) en0 h0 8 1 (by omega) (by omega) ⟨[], [], 0⟩ ⟨by show 0 + szS s0 ≤ 40; omega, by rw [p0]; simp, fun b hb => ⟨(fun z => nomatch z), (fun y hy => nomatch hy), (fun z => nomatch z)⟩, fun x hx => nomatch hx⟩
  have e1 : lkA cs1.pu b0 = some [0] := p1.pu b0 (by rw [p0]; exact List.mem_cons_self)
  obtain ⟨cs2, c2⟩ := tops_rt en (ss := ss) (i := 1) (cs := cs1) h (by rw [p1.sn]; show 0 + szS s0 + _ ≤ 40; omega) (fun x hx => (p1.nm x hx).elim (fun z => nomatch z) fun ⟨y, hy, _⟩ => nomatch hy) (fun y hy => ⟨0, by omega, by rw [hrd y hy]; exact e1⟩) (fun b t ht => by
    by_cases e : b ∈ putsS s0
    · unfold puN at ht
      rw [p1.pu b e] at ht
      rcases List.mem_append.mp ht with ht | ht
      · exact nomatch ht
      · rw [List.mem_singleton.mp ht]; omega
    · unfold puN at ht
      rw [p1.ot b e] at ht
      exact nomatch ht)
  exact ⟨bok, by simp, by simpa using l12, cs2, .cons c1 c2⟩
end Fm

namespace Fm
open PySem PySem.Spec PyProof.Rows L2
/-! ### plain: the statement at a path, and another one in its place -/
inductive At : Stm → List Nat → Stm → Prop
  | nil {s : Stm} : At s [] s
  | cons {o : Og} {bd : List Stm} {i : Nat} {st : Stm} {p : List Nat} {x : Stm} : bd[i]? = some st → At st p x → At (o.st bd) (i :: p) x
def AtB (bd : List Stm) (path : List Nat) (x : Stm) : Prop := ∃ i p st, path = i :: p ∧ bd[i]? = some st ∧ At st p x
inductive Rp : Stm → List Nat → Stm → Stm → Prop
  | nil {s x : Stm} : Rp s [] x x
  | cons {o : Og} {bd : List Stm} {i : Nat} {st st' : Stm} {p : List Nat} {x : Stm} : bd[i]? = some st → Rp st p x st' → Rp (o.st bd) (i :: p) x (o.st (bd.set i st'))
def RpB (bd : List Stm) (path : List Nat) (x : Stm) (bd' : List Stm) : Prop := ∃ i p st st', path = i :: p ∧ bd[i]? = some st ∧ Rp st p x st' ∧ bd' = bd.set i st'
theorem og_of (s : Stm) : (∃ b ts adds, s = .put b ts adds) ∨ ∃ (o : Og) (bd : List Stm), s = o.st bd := by
  cases s with
  | put b ts adds => exact .inl ⟨_, _, _, rfl⟩
  | same a b bo => exact .inr ⟨.same a b, bo, rfl⟩
  | scan v t bo => exact .inr ⟨.scan v t, bo, rfl⟩
  | run v t f bo => exact .inr ⟨.run v t f, bo, rfl⟩
  | seek v t f a bo => exact .inr ⟨.seek v t f a, bo, rfl⟩
  | each v b bo => exact .inr ⟨.each v b, bo, rfl⟩
  | rise v b k bo => exact .inr ⟨.rise v b k, bo, rfl⟩
  | look v b ts bo => exact .inr ⟨.look v b ts, bo, rfl⟩
def Og.word : Og → Str
  | .scan _ _ => "scan"
  | .run _ _ _ => "run"
  | .seek _ _ _ _ => "seek"
  | .each _ _ => "each"
  | .rise _ _ _ => "rise"
  | .look _ _ _ => "look"
  | .same _ _ => "same"
theorem Og.word_put (o : Og) : o.word ≠ "put" := by cases o <;> simp only [Og.word] <;> decide +kernel
def Og.isSame : Og → Bool
  | .same _ _ => true
  | _ => false
theorem Og.dat_word (o : Og) : ∃ ds, o.dat = .str o.word :: ds ∧ 2 ≤ ds.length ∧ ds.length ≤ 4 := by cases o <;> exact ⟨_, rfl, by simp, by simp⟩
theorem Og.dat_v (o : Og) (h : o.isSame = false) : ∃ ds, o.dat = .str o.word :: .str o.v :: ds := by cases o <;> first | exact ⟨_, rfl⟩ | cases h
theorem dSt_og (o : Og) (bd : List Stm) : dSt (o.st bd) = .tuple (o.dat ++ [.tuple (dSts bd)]) := by cases o <;> simp only [Og.st, dSt] <;> rfl
theorem og_inj {o o' : Og} {bd bd' : List Stm} (h : o.st bd = o'.st bd') : o = o' ∧ bd = bd' := by
  cases o <;> cases o' <;> simp only [Og.st, Stm.same.injEq, Stm.scan.injEq, Stm.run.injEq, Stm.seek.injEq, Stm.each.injEq, Stm.rise.injEq, Stm.look.injEq, reduceCtorEq] at h <;> simp_all
theorem At.one {o : Og} {bd : List Stm} {i : Nat} {p : List Nat} {x : Stm} (h : At (o.st bd) (i :: p) x) : ∃ st, bd[i]? = some st ∧ At st p x := by
  generalize e : o.st bd = s at h
  cases h with
  | cons h1 h2 =>
    obtain ⟨rfl, rfl⟩ := og_inj e
    exact ⟨_, h1, h2⟩
theorem At.put {b : Str} {ts : List Tm} {adds : List (List Prd)} {i : Nat} {p : List Nat} {x : Stm} (h : At (.put b ts adds) (i :: p) x) : False := by
  generalize e : Stm.put b ts adds = s at h
  cases h with
  | @cons o bd _ _ _ _ h1 h2 => cases o <;> cases e
theorem At.nilI {s x : Stm} (h : At s [] x) : s = x := by
  generalize e : ([] : List Nat) = p at h
  cases h with
  | nil => rfl
  | cons _ _ => cases e
theorem At.snoc {o : Og} {bd : List Stm} {i : Nat} {st s x : Stm} {p : List Nat} (h : At s p x) : x = o.st bd → bd[i]? = some st → At s (p ++ [i]) st := by
  induction h with
  | nil => intro e h; rw [e]; exact .cons h .nil
  | cons a _ ih => intro e h; exact .cons a (ih e h)
theorem AtB.snoc {bs : List Stm} {o : Og} {bd : List Stm} {i : Nat} {st : Stm} {p : List Nat} (h : AtB bs p (o.st bd)) (e : bd[i]? = some st) : AtB bs (p ++ [i]) st := by
  obtain ⟨j, q, s, rfl, h1, h2⟩ := h
  exact ⟨j, q ++ [i], s, rfl, h1, h2.snoc rfl e⟩
theorem Rp.of {s x : Stm} {p : List Nat} (h : At s p x) (y : Stm) : ∃ s', Rp s p y s' := by
  induction h with
  | nil => exact ⟨_, .nil⟩
  | cons a _ ih => obtain ⟨s', r⟩ := ih; exact ⟨_, .cons a r⟩
theorem Rp.len {s x s' : Stm} {p : List Nat} (h : Rp s p x s') : True := trivial
/-- whether a term belongs to a variable -/
def tmIs (t : Tm) (v : Str) : Bool := match t with
  | .val _ => false
  | .of u _ => decide (u = v)
end Fm

/-! a try whose body raises nothing, whatever its clauses are -/
namespace L2
open PySem PySem.Spec PyProof.Rows
section
variable {X : Cx} {body : List Stmt} {z₀ : ExceptHandler} {zs : List ExceptHandler} {pos : Pos} {tb : TS}
theorem ps_try0 (hb : ∀ (pn : List (Addr × Obj)) (xe : Value → Shared → Prop), PassesOwn (model X.prog X.w) X.A X.env xe → PSs (X.tr pn xe) body tb) : PS X (.Try body (z₀ :: zs) [] [] pos) tb := by
  refine ⟨fun pins s σ H D I0 hw => ?_⟩
  have ok := I0.ok
  refine wpAny_Try_except ?_
  have run0 := (hb (X.pn ++ pins) (fun e sa => wpAny (model X.prog X.w) X.A (noteFrame e X.env) (fun _ sb => wpAny (model X.prog X.w) X.A (setFlight e none) (fun _ sc => wpAny (model X.prog X.w) X.A (handleBy e X.env (z₀ :: zs)) (SP X pins D) X.xe sc) X.xe sb) X.xe sa) PassesOwn.looking).run [] s σ H D (I0.toTry _) hw
  refine wpAny_mono run0 (fun f s1 got => ?_) (fun _ _ q => q)
  cases f with
  | ret u => obtain ⟨v, σ2, H2, J, r, q⟩ := got; exact ⟨v, σ2, H2, J.ofTry ok, r, q⟩
  | next => obtain ⟨σ2, H2, J, q⟩ := got; exact wpAny_execs_nil ⟨σ2, H2, J.ofTry ok, q⟩
  | cont => obtain ⟨σ2, H2, J, q⟩ := got; exact ⟨σ2, H2, J.ofTry ok, q⟩
  | brk => obtain ⟨σ2, H2, J, q⟩ := got; exact ⟨σ2, H2, J.ofTry ok, q⟩
end
end L2
namespace Fm
open PySem PySem.Spec PyProof.Rows L2
/-- o.f, told with the outer K (within a try) -/
theorem pe_fldM {X : Cx} {K : PySem.W.Frag} {e : Expr} {f : Str} {pos : Pos} {ta : TE} (hK : X.K = K) (he : PE X e ta) (hb : attributeBase e f X.env (eval e X.env) = eval e X.env) : PE X (.Attribute e f pos) (tFld K ta f) := by
  subst hK
  exact pe_fld he hb
end Fm

namespace Fm
open PySem PySem.Spec PyProof.Rows L2
/-! ### is_index, statement_at, names -/
theorem DtAll.dropd {S : Addr → Prop} {q : Bool} {H : Hp} : ∀ {n : Nat} {v : List V} {d : List PyData}, DtAll S q H n v d → ∀ i : Nat, DtAll S q H n (v.drop i) (d.drop i)
  | _, _, _, .nil, i => by rw [List.drop_nil, List.drop_nil]; exact .nil
  | _, _, _, .cons a b, 0 => .cons a b
  | _, _, _, .cons a b, i + 1 => DtAll.dropd b i
theorem at_lastX {xs : List V} {v : V} : atI (xs ++ [v]) (-1) = some v := by
  cases xs with
  | nil => rfl
  | cons x xs => exact atLast (v := x) (xs := xs ++ [v]) (y := v) (by simp) (by simp)
def spIsIdx : Sp := fun vs H Q _ => ∃ i : Int, vs = [.int i] ∧ Q (.bl (decide (0 ≤ i))) H
/-- the value tells a statement, a body -/
def Sm_ (H : Hp) (v : V) (s : Stm) : Prop := ∃ m, Im H m v (dSt s)
def Bd_ (H : Hp) (v : V) (bd : List Stm) : Prop := ∃ m, Im H m v (.tuple (bd.map dSt))
theorem Sm_.kp {ms : List Addr} {H H' : Hp} {v : V} {s : Stm} (k : Kp ms H H') (h : Sm_ H v s) : Sm_ H' v s := let ⟨m, h⟩ := h; ⟨m, h.kp k⟩
theorem Bd_.kp {ms : List Addr} {H H' : Hp} {v : V} {bd : List Stm} (k : Kp ms H H') (h : Bd_ H v bd) : Bd_ H' v bd := let ⟨m, h⟩ := h; ⟨m, h.kp k⟩
theorem Bd_.tup {H : Hp} {v : V} {bd : List Stm} (h : Bd_ H v bd) : ∃ a xs, v = .ref a ∧ H a = some (.tup xs) ∧ A2 (Sm_ H) xs bd := by
  obtain ⟨m, h⟩ := h
  obtain ⟨a, m2, xs, rfl, rfl, ha, ax⟩ := Dt.tupI h
  refine ⟨a, xs, rfl, ha, ?_⟩
  clear h ha
  induction bd generalizing xs with
  | nil => cases ax; exact .nil
  | cons s bd ih =>
    cases ax with
    | cons x y => exact .cons ⟨_, x⟩ (ih _ y)
theorem Sm_.og {H : Hp} {v : V} {o : Og} {bd : List Stm} (h : Sm_ H v (o.st bd)) : ∃ a m xs vb, v = .ref a ∧ H a = some (.tup (xs ++ [vb])) ∧ ImAll H m xs o.dat ∧ Bd_ H vb bd := by
  obtain ⟨m, h⟩ := h
  rw [dSt_og] at h
  obtain ⟨a, m2, zs, rfl, rfl, ha, az⟩ := Dt.tupI h
  have lz := az.len
  rw [List.length_append] at lz
  have e : zs = zs.take o.dat.length ++ zs.drop o.dat.length := (List.take_append_drop _ _).symm
  have a1 := az.take o.dat.length
  have a2 := az.dropd o.dat.length
  rw [List.take_left] at a1
  rw [List.drop_left] at a2
  obtain ⟨vb, w, ew, hb, g⟩ := a2.consI
  have := g.nilI
  subst this
  rw [ew] at e
  refine ⟨a, m2, zs.take o.dat.length, vb, rfl, by rw [← e]; exact ha, a1, ?_⟩
  rw [dSts_map] at hb
  exact ⟨m2, hb⟩
theorem Sm_.put {H : Hp} {v : V} {b : Str} {ts : List Tm} {adds : List (List Prd)} (h : Sm_ H v (.put b ts adds)) : ∃ a xs, v = .ref a ∧ H a = some (.tup (.str "put" :: xs)) := by
  obtain ⟨m, h⟩ := h
  rw [dSt] at h
  obtain ⟨a, m2, zs, rfl, rfl, ha, az⟩ := Dt.tupI h
  obtain ⟨v1, w1, rfl, h1, _⟩ := az.consI
  have e := h1.strI.1; subst e
  exact ⟨a, w1, rfl, ha⟩
def spStAt : Sp := fun vs H Q _ => ∃ (vb : V) (pa : Addr) (bd : List Stm) (path : List Nat) (x : Stm), vs = [vb, .ref pa] ∧ Bd_ H vb bd ∧ H pa = some (.tup (path.map fun i => V.int (i : Nat))) ∧ AtB bd path x ∧ ∀ v H', Kp [] H H' → Sm_ H' v x → Q v H'
def spNames : Sp := fun vs H Q _ => ∃ (v : V) (t : Tm) (u : Str) (m : Nat), vs = [v, .str u] ∧ Im H m v (dTm t) ∧ Q (.bl (tmIs t u)) H
section
variable {P : Program} {w : World} {K : PySem.W.Frag} {mg : Str → Option Value} {base : Heap}
theorem ok_is_index (B : Bi mg) (D : Dfn K mg "is_index" s_is_index ["thing"]) : Has P w K mg base CX0 "is_index" ["thing"] 1 spIsIdx := by
  refine D.has sc_is_index (fun vs H Q E h => ?_) (fun f cdv A outer s H vs Q E hr h => ?_)
  · obtain ⟨i, rfl, _⟩ := h; rfl
  · obtain ⟨i, rfl, k⟩ := h
    have hx : Im H 0 (.int i) (.int i) := .int i
    refine ⟨_, (pss_one (ps_ret (pe_and (pe_callB call_isi (by rfl) B.isinstance (by decide +kernel) (pa_cons (pv 0) (pa_cons (pe_bltn (v := .ty "int") (by rfl) B.int (by decide +kernel) rfl) pa_nil))) (pe_and (pe_not (pe_callB call_isi (by rfl) B.isinstance (by decide +kernel) (pa_cons (pv 0) (pa_cons (pe_bltn (v := .ty "bool") (by rfl) B.bool (by decide +kernel) rfl) pa_nil)))) (pe_one (pe_cmpR op_ge (pv 0) pe_int (nomark _))))))), ?_⟩
    refine ⟨_, rfl, _, _, _, _, _, rfl, .ty _, hx.ty, kit_ty (kb_int _), _, rfl, iteT ?_⟩
    refine ⟨_, rfl, _, _, _, _, _, rfl, .ty _, hx.ty, kit_ty (kb_bool _), _, rfl, ⟨_, rfl, iteT ?_⟩⟩
    exact ⟨_, rfl, _, _, rfl, rfl, k⟩
theorem ok_names (B : Bi mg) (D : Dfn K mg "names" s_names ["term", "variable"]) : Has P w K mg base CX0 "names" ["term", "variable"] 1 spNames := by
  refine D.has sc_names (fun vs H Q E h => ?_) (fun f cdv A outer s H vs Q E hr h => ?_)
  · obtain ⟨v, t, u, m, rfl, _⟩ := h; rfl
  · obtain ⟨v, t, u, m, rfl, hv, k⟩ := h
    refine ⟨_, (pss_one (ps_ret (pe_and (pe_callB call_isi (by rfl) B.isinstance (by decide +kernel) (pa_cons (pv 0) (pa_cons (pe_bltn (v := .ty "tuple") (by rfl) B.tuple (by decide +kernel) rfl) pa_nil))) (pe_one (pe_cmpR op_eq (pe_ix (r := rIxT K) ix_tup (pv 0) pe_int (fun _ _ => rfl)) (pv 1) (nomark _)))))), ?_⟩
    refine ⟨_, rfl, _, _, _, _, _, rfl, .ty _, hv.ty, kit_ty (kb_tuple _), _, rfl, ?_⟩
    cases t with
    | val i => exact iteF k
    | of x f =>
      refine iteT ?_
      obtain ⟨a, m2, zs, rfl, _, ha, az⟩ := Dt.tupI (show Im H m v (.tuple [.str "of", .str x, .str f]) from hv)
      obtain ⟨v1, w1, rfl, h1, g1⟩ := az.consI
      obtain ⟨v2, w2, rfl, h2, g2⟩ := g1.consI
      have e := h2.strI.1; subst e
      refine ⟨_, rfl, a, _, 1, .str x, rfl, rfl, SqT.of ha, atI_nat (k := 1) rfl, _, rfl, rfl, ?_⟩
      rw [show decide (V.str x = V.str u) = tmIs (.of x f) u from decide_eq_decide.mpr ⟨fun e => V.str.inj e, fun e => congrArg _ e⟩]
      exact k
theorem ok_statement_at (B : Bi mg) (D : Dfn K mg "statement_at" s_statement_at ["body", "path"]) (G_is_index : Has P w K mg base CX0 "is_index" ["thing"] 1 spIsIdx) : Has P w K mg base CX0 "statement_at" ["body", "path"] 2 spStAt := by
  refine D.has sc_statement_at (fun vs H Q E h => ?_) (fun f cdv A outer s H vs Q E hr h => ?_)
  · obtain ⟨vb, pa, bd, path, x, rfl, _⟩ := h; rfl
  · obtain ⟨vb, pa, bd, path, x, rfl, hb, hp, at0', k⟩ := h
    refine ⟨_, (pss_cons (ps_if (pt_not (pt_val (pe_callB call_isi (by rfl) B.isinstance (by decide +kernel) (pa_cons (pv 1) (pa_cons (pe_bltn (v := .ty "tuple") (by rfl) B.tuple (by decide +kernel) rfl) pa_nil)))))
  (pss_one (ps_ret pe_non))
  pss_nil)
  (pss_cons (ps_set (i := 2) sc_statement_at.nd rfl (by first | exact Or.inl rfl | exact Or.inr rfl) pe_non)
  (pss_cons (ps_for PassesOwn.never rfl (pi_tup (pv 1)) (pg_name (i := 3) sc_statement_at.nd rfl (by first | exact Or.inl rfl | exact Or.inr rfl))
  (pss_cons (ps_if (PW.pt (pw_or (pt_not (pt_val (pe_has G_is_index (hr.mono (by omega)) (pa_cons (pv 3) pa_nil)))) (pw_or1 (pt_cmpR op_ge (pv 3) (pe_callB call_len (by rfl) B.len PySem.boot_len (pa_cons (pv 0) pa_nil)) (nomark _)))))
  (pss_one (ps_ret pe_non))
  pss_nil)
  (pss_cons (ps_set (i := 2) sc_statement_at.nd rfl (by first | exact Or.inl rfl | exact Or.inr rfl) (pe_ix (r := rIxT K) ix_tup (pv 0) (pv 3) (fun _ _ => rfl)))
  (pss_cons (ps_set (i := 0) sc_statement_at.nd rfl (by first | exact Or.inl rfl | exact Or.inr rfl) (pe_tup pa_nil))
  (pss_one (ps_if (pt_cmpR op_ne (pe_ix (r := rIxT K) ix_tup (pv 2) pe_int (fun _ _ => rfl)) pe_str (nomark _))
  (pss_one (ps_set (i := 0) sc_statement_at.nd rfl (by first | exact Or.inl rfl | exact Or.inr rfl) (pe_ix (r := rIxT K) ix_tup (pv 2) (pe_un un_neg pe_int) (fun _ _ => rfl))))
  pss_nil))))))
  (pss_one (ps_ret (pv 2)))))), ?_⟩
    have hsz : sizeLine = 16777216 := rfl
    refine ⟨_, rfl, _, _, _, _, _, rfl, .ty _, .base (.tup hp), kit_ty (kb_tuple (.tuple [])), _, rfl, iteF ?_⟩
    refine ⟨_, rfl, pa, rfl, ⟨_, SqT.of hp⟩, ?_⟩
    refine for_it (walk_tup (xs := path.map fun i => V.int (i : Nat))) (fun j σ H' => Kp [] H H' ∧ ∃ vb' vf o3, σ = [some vb', some (.ref pa), some vf, o3] ∧ ((j < path.length ∧ ∃ bd', Bd_ H' vb' bd' ∧ AtB bd' (path.drop j) x) ∨ (j = path.length ∧ Sm_ H' vf x))) ⟨Kp.refl _, vb, .non, none, rfl, .inl ⟨by obtain ⟨i, p, _, e, _⟩ := at0'; rw [e]; simp, bd, hb, at0'⟩⟩ (fun j σ H' _ h => SqT.of (h.1.tp _ _ hp)) ?_ ?_
    · rintro j u σ H1 H2 hj ⟨k1, vb', vf, o3, rfl, hc⟩ ⟨rfl, hu1⟩
      have hj : j < (path.map fun i => V.int (i : Nat)).length := hj
      rw [List.length_map] at hj
      rcases hc with ⟨_, bd', hb', i, p, st, ep, hst, hat⟩ | ⟨e, _⟩
      rotate_left
      · omega
      have hji : path[j]? = some i := by rw [List.drop_eq_getElem_cons hj] at ep; rw [List.getElem?_eq_getElem hj]; exact congrArg some (List.cons.inj ep).1
      have hpd : path.drop (j + 1) = p := by rw [List.drop_eq_getElem_cons hj] at ep; exact (List.cons.inj ep).2
      rw [List.getElem?_map, hji] at hu1
      cases hu1
      obtain ⟨ab, xb, rfl, hab, axb⟩ := hb'.tup
      have lxb := axb.len
      have hi : i < bd'.length := (List.getElem?_eq_some_iff.mp hst).1
      obtain ⟨vs, hvs, sms⟩ := axb.get hst
      refine ⟨_, rfl, (i : Nat), rfl, _, rfl, ?_⟩
      refine iteFs (by simp) ?_
      refine ⟨_, rfl, _, rfl, _, _, rfl, .inr ⟨_, SqT.of hab, rfl⟩, _, _, rfl, rfl, _, rfl, iteFs (decide_eq_false (by omega)) ?_⟩
      refine ⟨_, rfl, _, rfl, ab, xb, (i : Nat), vs, rfl, rfl, SqT.of hab, atI_nat hvs, ?_⟩
      refine ⟨by show 0 ≤ sizeLine; decide, fun e he => ?_⟩
      have q1 : Kp [] H2 (upd H2 e (.tup [])) := Kp.new he
      have he1 : upd H2 e (.tup []) e = some (.tup []) := upd_same
      generalize upd H2 e (.tup []) = H3 at q1 he1 ⊢
      have sms2 := sms.kp q1
      have k2 := k1.trans q1
      rcases og_of st with ⟨b, ts, adds, rfl⟩ | ⟨o, bo, rfl⟩
      · obtain ⟨a2, ys, rfl, ha2⟩ := sms2.put
        have ep : p = [] := by
          cases p with
          | nil => rfl
          | cons y ys => exact (hat.put).elim
        refine ⟨_, rfl, a2, _, 0, .str "put", rfl, rfl, SqT.of ha2, at0, rfl, _, rfl, iteFs (by simp) ?_⟩
        rw [ep] at hat hpd
        have := hat.nilI
        subst this
        have l1 : j + 1 = path.length := by
          have := congrArg List.length hpd
          rw [List.length_drop] at this
          simp at this
          omega
        exact ⟨k2, _, _, _, rfl, .inr ⟨l1, sms2⟩⟩
      · obtain ⟨a2, m2, ys, vb2, rfl, ha2, iys, ib2⟩ := sms2.og
        obtain ⟨ds, ed, _, _⟩ := o.dat_word
        rw [ed] at iys
        obtain ⟨w1, ws, rfl, hw, _⟩ := iys.consI
        have e1 := hw.strI.1; subst e1
        refine ⟨_, rfl, a2, _, 0, .str o.word, rfl, rfl, SqT.of ha2, at0, rfl, _, rfl, iteTs (by rw [decide_eq_false (fun e => o.word_put (V.str.inj e))]; rfl) ?_⟩
        refine ⟨_, rfl, _, rfl, a2, _, -1, vb2, rfl, rfl, SqT.of ha2, at_lastX, k2, _, _, _, rfl, ?_⟩
        cases p with
        | nil =>
          have := hat.nilI
          subst this
          refine .inr ⟨?_, sms2⟩
          have := congrArg List.length hpd
          rw [List.length_drop] at this
          simp at this
          omega
        | cons i2 p2 =>
          obtain ⟨st2, h1, h2⟩ := hat.one
          refine .inl ⟨?_, bo, ib2, i2, p2, st2, hpd, h1, h2⟩
          have := congrArg List.length hpd
          rw [List.length_drop] at this
          simp at this
          omega
    · rintro σ H1 ⟨k1, vb', vf, o3, rfl, hc⟩
      rw [List.length_map] at hc
      rcases hc with ⟨h, _⟩ | ⟨_, h⟩
      · omega
      · exact ⟨_, rfl, k vf H1 k1 h⟩
end
end Fm

namespace Fm
open PySem PySem.Spec PyProof.Rows L2
/-! ### replaced -/
theorem slA_inM {K : PySem.W.Frag} {H : Hp} {a : Addr} {xs : List V} {lo hi : Option Int} {Q : VK} (h : H a = some (.tup xs)) (q : ∀ y H', Kp [] H H' → H' y = some (.tup (cutV xs lo hi)) → Q (.ref y) H') : rSlA K (.ref a) lo hi H Q := by
  refine ⟨a, xs, rfl, .inl (.inl h), fun hc => ?_, fun _ p hp => q p _ (Kp.new hp) upd_same⟩
  refine q a H (Kp.refl _) ?_
  rw [h]
  unfold cutV
  rw [hc.1, hc.2, List.drop_zero, Nat.sub_zero, List.take_length]
theorem cut_takeM {xs : List V} {i : Nat} : cutV xs none (some ((i : Nat) : Int)) = xs.take i := by
  unfold cutV
  rw [HT.sIx_nat, HT.sIx_none, List.drop_zero, Nat.sub_zero]
  by_cases h : i ≤ xs.length
  · rw [Nat.min_eq_left h]
  · rw [Nat.min_eq_right (by omega), List.take_of_length_le (Nat.le_refl _), List.take_of_length_le (by omega)]
theorem sm_all {H : Hp} : ∀ {xs : List V} {bd : List Stm}, A2 (Sm_ H) xs bd → ∃ m, ImAll H m xs (bd.map dSt)
  | _, _, .nil => ⟨0, .nil⟩
  | _, _, .cons ⟨m1, a⟩ r => by
    obtain ⟨m2, b⟩ := sm_all r
    exact ⟨max m1 m2, .cons (a.mono (Nat.le_max_left _ _)) (b.mono (Nat.le_max_right _ _))⟩
theorem bd_of {H : Hp} {a : Addr} {xs : List V} {bd : List Stm} (ha : H a = some (.tup xs)) (h : A2 (Sm_ H) xs bd) (l : xs.length ≤ 1000000) : Bd_ H (.ref a) bd := by
  obtain ⟨m, h⟩ := sm_all h
  exact ⟨m + 1, .tup ha ⟨l, _, ha⟩ h⟩
theorem sm_of {H : Hp} {a : Addr} {m : Nat} {xs : List V} {vb : V} {o : Og} {bd : List Stm} (ha : H a = some (.tup (xs ++ [vb]))) (ix : ImAll H m xs o.dat) (hb : Bd_ H vb bd) : Sm_ H (.ref a) (o.st bd) := by
  obtain ⟨m2, hb⟩ := hb
  obtain ⟨ds, ed, _, l4⟩ := o.dat_word
  have lx := ix.len
  rw [ed, List.length_cons] at lx
  refine ⟨max m m2 + 1, ?_⟩
  rw [dSt_og, dSts_map]
  exact .tup ha ⟨by rw [List.length_append]; simp; omega, _, ha⟩ ((ix.mono (Nat.le_max_left _ _)).append (.cons (hb.mono (Nat.le_max_right _ _)) .nil))
theorem Rp.nilI {s x y : Stm} (h : Rp s [] x y) : y = x := by
  generalize e : ([] : List Nat) = p at h
  cases h with
  | nil => rfl
  | cons _ _ => cases e
theorem Rp.one {s x s' : Stm} {i : Nat} {p : List Nat} (h : Rp s (i :: p) x s') : ∃ (o : Og) (bd : List Stm) (st st' : Stm), s = o.st bd ∧ bd[i]? = some st ∧ Rp st p x st' ∧ s' = o.st (bd.set i st') := by
  generalize e : i :: p = q at h
  cases h with
  | nil => cases e
  | cons a b => cases e; exact ⟨_, _, _, _, rfl, a, b, rfl⟩
theorem Bd_.len {H : Hp} {a : Addr} {xs : List V} {bd : List Stm} (h : Bd_ H (.ref a) bd) (ha : H a = some (.tup xs)) : xs.length ≤ 1000000 := by
  obtain ⟨m, h⟩ := h
  cases h with
  | tup r l _ => rw [ha] at r; cases r; exact l.1
theorem set_parts {α β : Type} {R : α → β → Prop} {xs : List α} {bd : List β} (h : A2 R xs bd) {i : Nat} (hi : i < bd.length) {v : α} {s : β} (r : R v s) : A2 R (xs.take i ++ [v] ++ xs.drop (i + 1)) (bd.set i s) := by
  induction h generalizing i with
  | nil => exact absurd hi (Nat.not_lt_zero _)
  | cons a b ih =>
    cases i with
    | zero => exact .cons r b
    | succ i => exact .cons a (ih (i := i) (by simpa using hi))
def spRepl (n : Nat) : Sp := fun vs H Q _ => ∃ (vb vx : V) (pa : Addr) (bd bd' : List Stm) (path : List Nat) (x : Stm), vs = [vb, .ref pa, vx] ∧ Bd_ H vb bd ∧ H pa = some (.tup (path.map fun i => V.int (i : Nat))) ∧ path.length ≤ n + 1 ∧ RpB bd path x bd' ∧ Sm_ H vx x ∧ ∀ v H', Kp [] H H' → Bd_ H' v bd' → Q v H'
def spReplB : Nat → Sp
  | 0 => fun _ _ _ _ => False
  | n + 1 => spRepl n
section
variable {P : Program} {w : World} {K : PySem.W.Frag} {mg : Str → Option Value} {base : Heap}
theorem step_repl (B : Bi mg) (D : Dfn K mg "replaced" s_replaced ["body", "path", "statement"]) (n : Nat) (G_replaced : Has P w K mg base CX0 "replaced" ["body", "path", "statement"] (n + 1) (spReplB n)) : Has P w K mg base CX0 "replaced" ["body", "path", "statement"] (n + 2) (spRepl n) := by
  refine D.has sc_replaced (fun vs H Q E h => ?_) (fun f cdv A outer s H vs Q E hr h => ?_)
  · obtain ⟨vb, vx, pa, bd, bd', path, x, rfl, _⟩ := h; rfl
  · obtain ⟨vb, vx, pa, bd, bd', path, x, rfl, hb, hp, lp, hrp, hx, k⟩ := h
    refine ⟨_, (pss_cons (ps_set (i := 3) sc_replaced.nd rfl (by first | exact Or.inl rfl | exact Or.inr rfl) (pe_ix (r := rIxT K) ix_tup (pv 1) pe_int (fun _ _ => rfl)))
  (C8.pss_cut (ps_if (pt_cmpR op_gt (pe_callB call_len (by rfl) B.len PySem.boot_len (pa_cons (pv 1) pa_nil)) pe_int (nomark _))
  (pss_cons (ps_set (i := 4) sc_replaced.nd rfl (by first | exact Or.inl rfl | exact Or.inr rfl) (pe_ix (r := rIxT K) ix_tup (pv 0) (pv 3) (fun _ _ => rfl)))
  (pss_one (ps_set (i := 2) sc_replaced.nd rfl (by first | exact Or.inl rfl | exact Or.inr rfl) (pe_op op_catA (pe_slice sl_tupA (pv 4) po_none (po_some (pe_un un_neg pe_int))) (pe_tup (pa_cons (pe_has G_replaced hr (pa_cons (pe_ix (r := rIxT K) ix_tup (pv 4) (pe_un un_neg pe_int) (fun _ _ => rfl)) (pa_cons (pe_slice sl_tupA (pv 1) (po_some pe_int) po_none) (pa_cons (pv 2) pa_nil)))) pa_nil))))))
  pss_nil)
  (pss_one (ps_ret (pe_op op_catA (pe_op op_catA (pe_slice sl_tupA (pv 0) po_none (po_some (pv 3))) (pe_tup (pa_cons (pv 2) pa_nil))) (pe_slice sl_tupA (pv 0) (po_some (pe_op op_add (pv 3) pe_int)) po_none)))))), ?_⟩
    have hsz : sizeLine = 16777216 := rfl
    obtain ⟨i, p, st, st', rfl, hst, hr2, rfl⟩ := hrp
    obtain ⟨ab, xb, rfl, hab, axb⟩ := hb.tup
    have lxb := axb.len
    have hi : i < bd.length := (List.getElem?_eq_some_iff.mp hst).1
    obtain ⟨vs, hvs, sms⟩ := axb.get hst
    refine ⟨_, rfl, pa, _, 0, .int (i : Nat), rfl, rfl, SqT.of hp, at0, ?_⟩
    refine ⟨fun σ H' => Kp [] H H' ∧ ∃ vx' o4, σ = [some (.ref ab), some (.ref pa), some vx', some (.int (i : Nat)), o4] ∧ Sm_ H' vx' st', ?_, ?_⟩
    · refine ⟨_, rfl, _, _, rfl, .inr ⟨_, SqT.of hp, rfl⟩, _, _, rfl, rfl, _, rfl, ?_⟩
      cases p with
      | nil =>
        have := hr2.nilI
        subst this
        exact iteFs (by simp) ⟨Kp.refl _, vx, none, rfl, hx⟩
      | cons i2 p2 =>
        obtain ⟨o, bo, st2, st2', rfl, h2, r2, rfl⟩ := hr2.one
        obtain ⟨a2, m2, ys, vb2, rfl, ha2, iys, ib2⟩ := sms.og
        refine iteTs (by simp; omega) ?_
        refine ⟨_, rfl, _, rfl, ab, xb, (i : Nat), .ref a2, rfl, rfl, SqT.of hab, atI_nat hvs, ?_⟩
        refine ⟨_, rfl, _, rfl, (-1 : Int), rfl, slA_inM ha2 fun y1 H1 k1 hy1 => ?_⟩
        rw [cut_last] at hy1
        refine ⟨_, rfl, _, rfl, a2, _, -1, vb2, rfl, rfl, SqT.of (k1.tp _ _ ha2), at_lastX, ?_⟩
        refine ⟨_, rfl, (1 : Int), rfl, ?_⟩
        dsimp only [tNoPart]
        refine slA_inM (k1.tp _ _ hp) fun y2 H2 k2 hy2 => ?_
        rw [show cutV ((i :: i2 :: p2).map fun i => V.int (i : Nat)) (some (1 : Int)) none = (i2 :: p2).map fun i => V.int (i : Nat) from cutN_drop (i := 1) (by simp)] at hy2
        have k12 := k1.trans k2
        obtain ⟨n, rfl⟩ : ∃ m, n = m + 1 := ⟨n - 1, by simp at lp; omega⟩
        refine ⟨_, rfl, vb2, vx, y2, bo, bo.set i2 st2', i2 :: p2, x, rfl, ib2.kp k12, hy2, by simp at lp ⊢; omega, ⟨i2, p2, st2, st2', rfl, h2, r2, rfl⟩, hx.kp k12, fun v3 H3 k3 hb3 => ?_⟩
        refine ⟨by show 1 ≤ sizeLine; decide, fun e he => ?_⟩
        have q1 : Kp [] H3 (upd H3 e (.tup [v3])) := Kp.new he
        have he1 : upd H3 e (.tup [v3]) e = some (.tup [v3]) := upd_same
        generalize upd H3 e (.tup [v3]) = H4 at q1 he1 ⊢
        have k24 := (k2.trans k3).trans q1
        have ly : ys.length ≤ 10 := by
          obtain ⟨ds, ed, _, l4⟩ := o.dat_word
          have := iys.len
          rw [ed, List.length_cons] at this
          omega
        refine catA_in (k24.tp _ _ hy1) he1 (by simp; omega) fun r H5 k5 hr5 => ?_
        have kk := k1.trans (k24.trans k5)
        exact ⟨kk, .ref r, _, rfl, sm_of hr5 (iys.kp kk) (hb3.kp (q1.trans k5))⟩
    · rintro σ H1 ⟨k1, vx', o4, rfl, hx'⟩
      have lxb6 := hb.len hab
      refine ⟨_, rfl, _, rfl, ((i : Nat) : Int), rfl, slA_inM (k1.tp _ _ hab) fun y1 H2 k2 hy1 => ?_⟩
      rw [cut_takeM] at hy1
      refine ⟨_, rfl, by show 1 ≤ sizeLine; decide, fun e he => ?_⟩
      have q1 : Kp [] H2 (upd H2 e (.tup [vx'])) := Kp.new he
      have he1 : upd H2 e (.tup [vx']) e = some (.tup [vx']) := upd_same
      generalize upd H2 e (.tup [vx']) = H3 at q1 he1 ⊢
      refine catA_in (q1.tp _ _ hy1) he1 (by rw [List.length_take]; simp; omega) fun r H4 k4 hr4 => ?_
      have k14 := (k2.trans q1).trans k4
      refine ⟨_, rfl, _, rfl, _, _, rfl, rfl, ((i : Nat) : Int) + 1, rfl, ?_⟩
      dsimp only [tNoPart]
      refine slA_inM ((k1.trans k14).tp _ _ hab) fun y3 H5 k5 hy3 => ?_
      rw [show cutV xb (some (((i : Nat) : Int) + 1)) none = xb.drop (i + 1) from cutN_drop (i := i + 1) (by omega)] at hy3
      refine catA_in (k5.tp _ _ hr4) hy3 (by rw [List.length_append, List.length_take, List.length_drop]; simp; omega) fun r2 H6 k6 hr6 => ?_
      have k16 := (k14.trans k5).trans k6
      have kk := k1.trans k16
      refine k (.ref r2) H6 kk (bd_of hr6 (set_parts (axb.imp fun _ _ h => h.kp kk) hi (hx'.kp k16)) ?_)
      simp
      omega
theorem ok_replaced (B : Bi mg) (D : Dfn K mg "replaced" s_replaced ["body", "path", "statement"]) : ∀ n, Has P w K mg base CX0 "replaced" ["body", "path", "statement"] (n + 2) (spRepl n)
  | 0 => step_repl B D 0 (Dfn.none D)
  | n + 1 => step_repl B D (n + 1) (ok_replaced B D n)
end
end Fm

namespace Fm
open PySem PySem.Spec PyProof.Rows L2
/-! ### body_turn -/
def Og.isLoop : Og → Bool
  | .look _ _ _ => false
  | .same _ _ => false
  | _ => true
def Og.asks (o : Og) (v : Str) : Bool := match o with
  | .seek _ _ _ a => tmIs a v
  | _ => false
/-- two that cannot be turned -/
def turnNo (o oi : Og) (ob : List Stm) : Bool := !o.isLoop || decide (1 < ob.length) || !oi.isLoop || oi.asks o.v
def loops5 : List V := [.str "scan", .str "run", .str "seek", .str "each", .str "rise"]
def LoopsK (K : PySem.W.Frag) (mg : Str → Option Value) (d : Addr) : Prop := mg "LOOPS" = some (.ref d) ∧ ∀ H, SqT K H d loops5
theorem Og.word_loop (o : Og) : inV (.str o.word) loops5 = o.isLoop := by cases o <;> simp only [Og.word, Og.isLoop] <;> decide +kernel
theorem Og.loop_same (o : Og) (h : o.isLoop = true) : o.isSame = false := by cases o <;> first | rfl | cases h
theorem RpB.of {bd : List Stm} {q : List Nat} {x : Stm} (h : AtB bd q x) (y : Stm) : ∃ bd', RpB bd q y bd' := by
  obtain ⟨i, p, st, e, h1, h2⟩ := h
  obtain ⟨s', r⟩ := Rp.of h2 y
  exact ⟨_, i, p, st, s', e, h1, r, rfl⟩
def spTurnB : Sp := fun vs H Q _ => ∃ (vb : V) (pa : Addr) (bd ob ib : List Stm) (q : List Nat) (o oi : Og), vs = [vb, .ref pa] ∧ Bd_ H vb bd ∧ H pa = some (.tup (q.map fun i => V.int (i : Nat))) ∧ 1 ≤ q.length ∧ q.length ≤ 10 ∧ AtB bd q (o.st ob) ∧ (¬ 1 < ob.length → ob = [oi.st ib]) ∧
  (turnNo o oi ob = true → ∀ H', Kp [] H H' → Q .non H') ∧ (turnNo o oi ob = false → ∀ bd' v H', RpB bd q (oi.st [o.st ib]) bd' → Kp [] H H' → Bd_ H' v bd' → Q v H')
/-- a statement's first parts -/
theorem og_word {H : Hp} {m : Nat} {ws : List V} {vb : V} {o : Og} (iws : ImAll H m ws o.dat) : atI (ws ++ [vb]) 0 = some (.str o.word) := by
  obtain ⟨ds, ed, _, _⟩ := o.dat_word
  rw [ed] at iws
  obtain ⟨v1, w1, rfl, h1, _⟩ := iws.consI
  have e := h1.strI.1; subst e
  exact at0
theorem og_var {H : Hp} {m : Nat} {ws : List V} {vb : V} {o : Og} (es : o.isSame = false) (iws : ImAll H m ws o.dat) : atI (ws ++ [vb]) 1 = some (.str o.v) := by
  obtain ⟨ds2, ed2⟩ := o.dat_v es
  rw [ed2] at iws
  obtain ⟨v1, w1, rfl, _, g1⟩ := iws.consI
  obtain ⟨v2, w2, rfl, h2, _⟩ := g1.consI
  have e := h2.strI.1; subst e
  exact atI_nat (k := 1) rfl
theorem og_len {H : Hp} {m : Nat} {ws : List V} {o : Og} (iws : ImAll H m ws o.dat) : ws.length ≤ 10 := by
  obtain ⟨ds, ed, _, l4⟩ := o.dat_word
  have := iws.len
  rw [ed, List.length_cons] at this
  omega
theorem Og.seek_or (o : Og) : (∃ v t f a, o = .seek v t f a) ∨ (o.word ≠ "seek" ∧ ∀ v, o.asks v = false) := by
  cases o with
  | seek v t f a => exact .inl ⟨_, _, _, _, rfl⟩
  | _ => exact .inr ⟨by simp only [Og.word]; decide +kernel, fun _ => rfl⟩
section
variable {P : Program} {w : World} {K : PySem.W.Frag} {mg : Str → Option Value} {base : Heap}
theorem ok_body_turn {dL : Addr} (B : Bi mg) (LK : LoopsK K mg dL) (D : Dfn K mg "body_turn" s_body_turn ["body", "path"]) (G_statement_at : Has P w K mg base CX0 "statement_at" ["body", "path"] 2 spStAt) (G_names : Has P w K mg base CX0 "names" ["term", "variable"] 1 spNames) (G_replaced : Has P w K mg base CX0 "replaced" ["body", "path", "statement"] 12 (spRepl 10)) : Has P w K mg base CX0 "body_turn" ["body", "path"] 13 spTurnB := by
  refine D.has sc_body_turn (fun vs H Q E h => ?_) (fun f cdv A outer s H vs Q E hr h => ?_)
  · obtain ⟨vb, pa, bd, ob, ib, q, o, oi, rfl, _⟩ := h; rfl
  · obtain ⟨vb, pa, bd, ob, ib, q, o, oi, rfl, hb, hp, q1, q10, hat, hob, kN, kY⟩ := h
    refine ⟨_, (pss_cons (ps_set (i := 2) sc_body_turn.nd rfl (by first | exact Or.inl rfl | exact Or.inr rfl) (pe_has G_statement_at (hr.mono (by omega)) (pa_cons (pv 0) (pa_cons (pv 1) pa_nil))))
  (pss_cons (ps_if (PW.pt (pw_or (pt_cmpR op_isN (pv 2) pe_non (nomark _)) (pw_or (pt_cmpR op_notIn_seq (pe_ix (r := rIxT K) ix_tup (pv 2) pe_int (fun _ _ => rfl)) (pe_glob (v := .ref dL) rfl LK.1 rfl) (by rfl)) (pw_or1 (pt_cmpR op_gt (pe_callB call_len (by rfl) B.len PySem.boot_len (pa_cons (pe_ix (r := rIxT K) ix_tup (pv 2) (pe_un un_neg pe_int) (fun _ _ => rfl)) pa_nil)) pe_int (nomark _))))))
  (pss_one (ps_ret pe_non))
  pss_nil)
  (pss_cons (ps_set (i := 3) sc_body_turn.nd rfl (by first | exact Or.inl rfl | exact Or.inr rfl) (pe_ix (r := rIxT K) ix_tup (pe_ix (r := rIxT K) ix_tup (pv 2) (pe_un un_neg pe_int) (fun _ _ => rfl)) pe_int (fun _ _ => rfl)))
  (pss_cons (ps_if (pt_cmpR op_notIn_seq (pe_ix (r := rIxT K) ix_tup (pv 3) pe_int (fun _ _ => rfl)) (pe_glob (v := .ref dL) rfl LK.1 rfl) (by rfl))
  (pss_one (ps_ret pe_non))
  pss_nil)
  (C8.pss_cut (ps_if (PW.pt (pw_and (pt_cmpR op_eq (pe_ix (r := rIxT K) ix_tup (pv 3) pe_int (fun _ _ => rfl)) pe_str (nomark _)) (pw_and1 (pt_val (pe_has G_names (hr.mono (by omega)) (pa_cons (pe_ix (r := rIxT K) ix_tup (pv 3) pe_int (fun _ _ => rfl)) (pa_cons (pe_ix (r := rIxT K) ix_tup (pv 2) pe_int (fun _ _ => rfl)) pa_nil)))))))
  (pss_one (ps_ret pe_non))
  pss_nil)
  (pss_cons (ps_set (i := 4) sc_body_turn.nd rfl (by first | exact Or.inl rfl | exact Or.inr rfl) (pe_op op_catA (pe_slice sl_tupA (pv 2) po_none (po_some (pe_un un_neg pe_int))) (pe_tup (pa_cons (pe_ix (r := rIxT K) ix_tup (pv 3) (pe_un un_neg pe_int) (fun _ _ => rfl)) pa_nil))))
  (pss_one (ps_ret (pe_has G_replaced (hr.mono (by omega)) (pa_cons (pv 0) (pa_cons (pv 1) (pa_cons (pe_op op_catA (pe_slice sl_tupA (pv 3) po_none (po_some (pe_un un_neg pe_int))) (pe_tup (pa_cons (pe_tup (pa_cons (pv 4) pa_nil)) pa_nil))) pa_nil)))))))))))), ?_⟩
    have hsz : sizeLine = 16777216 := rfl
    dsimp only [L2.cxOf, L2.Cx.nox]
    refine ⟨_, rfl, _, rfl, vb, pa, bd, q, _, rfl, hb, hp, hat, fun vo H1 k1 smo => ?_⟩
    obtain ⟨ro, mo, ws, vbo, rfl, hro, iws, hbo⟩ := smo.og
    obtain ⟨ob_, xo, rfl, hob1, axo⟩ := hbo.tup
    have lxo := axo.len
    refine ⟨_, rfl, rfl, _, rfl, iteFs (by simp) ?_⟩
    refine ⟨_, rfl, ro, _, 0, .str o.word, rfl, rfl, SqT.of hro, og_word iws, dL, loops5, rfl, .inr (LK.2 H1), rfl, rfl, _, rfl, ?_⟩
    cases el : o.isLoop with
    | false =>
      refine iteTs (by show (!inV _ _) = true; rw [Og.word_loop, el]; rfl) ?_
      exact kN (by unfold turnNo; rw [el]; rfl) _ k1
    | true =>
      refine iteFs (by show (!inV _ _) = false; rw [Og.word_loop, el]; rfl) ?_
      refine ⟨_, rfl, _, rfl, ro, _, -1, .ref ob_, rfl, rfl, SqT.of hro, at_lastX, _, _, rfl, .inr ⟨_, SqT.of hob1, rfl⟩, _, _, rfl, rfl, _, rfl, ?_⟩
      by_cases h1 : 1 < ob.length
      · refine iteTs (decide_eq_true (by omega)) ?_
        exact kN (by unfold turnNo; rw [decide_eq_true h1]; simp) _ k1
      · refine iteFs (decide_eq_false (by omega)) ?_
        have eob := hob h1
        subst eob
        cases axo with
        | @cons vi _ _ _ smi ax2 =>
          cases ax2
          obtain ⟨ri, mi, wi, vbi, rfl, hri, iwi, hbi⟩ := smi.og
          refine ⟨_, rfl, _, rfl, ro, _, -1, .ref ob_, rfl, rfl, SqT.of hro, at_lastX, ob_, _, 0, .ref ri, rfl, rfl, SqT.of hob1, atI_nat (k := 0) rfl, ?_⟩
          refine ⟨_, rfl, ri, _, 0, .str oi.word, rfl, rfl, SqT.of hri, og_word iwi, dL, loops5, rfl, .inr (LK.2 H1), rfl, rfl, _, rfl, ?_⟩
          cases ei : oi.isLoop with
          | false =>
            refine iteTs (by show (!inV _ _) = true; rw [Og.word_loop, ei]; rfl) ?_
            exact kN (by unfold turnNo; rw [ei]; simp) _ k1
          | true =>
            refine iteFs (by show (!inV _ _) = false; rw [Og.word_loop, ei]; rfl) ?_
            refine ⟨fun σ H' => σ = [some vb, some (.ref pa), some (.ref ro), some (.ref ri), none] ∧ H' = H1 ∧ oi.asks o.v = false, ?_, ?_⟩
            · refine ⟨_, rfl, ri, _, 0, .str oi.word, rfl, rfl, SqT.of hri, og_word iwi, rfl, _, rfl, ?_⟩
              rcases oi.seek_or with ⟨v, t, f1, a, rfl⟩ | ⟨nw, na⟩
              · refine iteTs (decide_eq_true rfl) ?_
                obtain ⟨va, e4, iva⟩ : ∃ va, atI (wi ++ [vbi]) 4 = some va ∧ Im H1 mi va (dTm a) := by
                  have iw := iwi
                  obtain ⟨v1, w1, rfl, _, g1⟩ := iw.consI
                  obtain ⟨v2, w2, rfl, _, g2⟩ := g1.consI
                  obtain ⟨v3, w3, rfl, _, g3⟩ := g2.consI
                  obtain ⟨v4, w4, rfl, _, g4⟩ := g3.consI
                  obtain ⟨v5, w5, rfl, h5, _⟩ := g4.consI
                  exact ⟨v5, atI_nat (k := 4) rfl, h5⟩
                refine ⟨_, rfl, ri, _, 4, va, rfl, rfl, SqT.of hri, e4, _, rfl, ro, _, 1, .str o.v, rfl, rfl, SqT.of hro, og_var (o.loop_same el) iws, va, a, o.v, mi, rfl, iva, _, rfl, ?_⟩
                cases ea : tmIs a o.v with
                | true => exact iteT (kN (by unfold turnNo; rw [show (Og.seek v t f1 a).asks o.v = true from ea]; simp) _ k1)
                | false => exact iteF ⟨rfl, rfl, ea⟩
              · exact iteFs (decide_eq_false fun z => nw (V.str.inj z)) (iteF ⟨rfl, rfl, na _⟩)
            · rintro σ H' ⟨rfl, rfl, ea⟩
              have nn : turnNo o oi [oi.st ib] = false := by unfold turnNo; rw [el, ei, ea]; rfl
              refine ⟨_, rfl, _, rfl, (-1 : Int), rfl, slA_inM hro fun y4 H4 k4 hy4 => ?_⟩
              rw [cut_last] at hy4
              have hri4 := k4.tp _ _ hri
              refine ⟨_, rfl, _, rfl, ri, _, -1, vbi, rfl, rfl, SqT.of hri4, at_lastX, by show 1 ≤ sizeLine; decide, fun e he => ?_⟩
              have q1' : Kp [] H4 (upd H4 e (.tup [vbi])) := Kp.new he
              have he1 : upd H4 e (.tup [vbi]) e = some (.tup [vbi]) := upd_same
              generalize upd H4 e (.tup [vbi]) = H5 at q1' he1 ⊢
              have lws := og_len iws
              have lwi := og_len iwi
              refine catA_in (q1'.tp _ _ hy4) he1 (by simp; omega) fun rl H6 k6 hrl => ?_
              have k16 := (k4.trans q1').trans k6
              have smL : Sm_ H6 (.ref rl) (o.st ib) := sm_of hrl (iws.kp k16) (hbi.kp k16)
              have hri6 := k16.tp _ _ hri
              refine ⟨_, rfl, _, rfl, _, rfl, _, rfl, (-1 : Int), rfl, slA_inM hri6 fun y7 H7 k7 hy7 => ?_⟩
              rw [cut_last] at hy7
              refine ⟨_, rfl, by show 1 ≤ sizeLine; decide, fun e2 he2 => ⟨by show 1 ≤ sizeLine; decide, fun e3 he3 => ?_⟩⟩
              have p1 : Kp [] H7 (upd H7 e2 (.tup [.ref rl])) := Kp.new he2
              have v1 : upd H7 e2 (.tup [.ref rl]) e2 = some (.tup [.ref rl]) := upd_same
              generalize upd H7 e2 (.tup [.ref rl]) = H8 at p1 v1 he3 ⊢
              have p2 : Kp [] H8 (upd H8 e3 (.tup [.ref e2])) := Kp.new he3
              have v2 : upd H8 e3 (.tup [.ref e2]) e3 = some (.tup [.ref e2]) := upd_same
              generalize upd H8 e3 (.tup [.ref e2]) = H9 at p2 v2 ⊢
              have p12 := p1.trans p2
              refine catA_in (p12.tp _ _ hy7) v2 (by simp; omega) fun rn H10 k10 hrn => ?_
              have p610 := (k7.trans p12).trans k10
              have k110 := k16.trans p610
              have k010 := k1.trans k110
              have hbd : Bd_ H10 (.ref e2) [o.st ib] := bd_of (k10.tp _ _ (p2.tp _ _ v1)) (.cons (smL.kp p610) .nil) (by simp)
              have smN : Sm_ H10 (.ref rn) (oi.st [o.st ib]) := sm_of hrn (iwi.kp k110) hbd
              obtain ⟨bd', hbd'⟩ := RpB.of hat (oi.st [o.st ib])
              exact ⟨vb, .ref rn, pa, bd, bd', q, _, rfl, hb.kp k010, k010.tp _ _ hp, by omega, hbd', smN, fun v H11 k11 hv => kY nn bd' v H11 hbd' (k010.trans k11) hv⟩
end
end Fm

namespace Fm
open PySem PySem.Spec PyProof.Rows L2
/-! ### after_move, moved: a same moved out -/
mutual
theorem std_self : ∀ s : Stm, StD (dSt s) s
  | .put b ts adds => put_std b ts adds
  | .same a b bo => by rw [dSt]; exact .same (.inr rfl) (stds_self bo)
  | .scan v t bo => by rw [dSt]; exact .scan (.inr rfl) (stds_self bo)
  | .run v t f bo => by rw [dSt]; exact .run (.inr rfl) (stds_self bo)
  | .seek v t f a bo => by rw [dSt]; exact .seek (.inr rfl) (stds_self bo)
  | .each v b bo => by rw [dSt]; exact .each (.inr rfl) (stds_self bo)
  | .rise v b k bo => by rw [dSt]; exact .rise (.inr rfl) (stds_self bo)
  | .look v b ts bo => by rw [dSt]; exact .look (.inr rfl) (.inr rfl) (stds_self bo)
theorem stds_self : ∀ ss : List Stm, StDs (dSts ss) ss
  | [] => by rw [dSts]; exact .nil
  | s :: ss => by rw [dSts]; exact .cons (std_self s) (stds_self ss)
end

theorem Rp.det {s x s1 : Stm} {p : List Nat} (h : Rp s p x s1) : ∀ s2, Rp s p x s2 → s1 = s2 := by
  induction h with
  | nil => intro s2 h2; exact (Rp.nilI h2).symm
  | @cons o bd i st st' p x h1 h2 ih =>
    intro s2 g
    obtain ⟨o', bd', st2, st2', e, g1, g2, rfl⟩ := g.one
    obtain ⟨rfl, rfl⟩ := og_inj e
    rw [h1] at g1
    cases g1
    rw [ih _ g2]
theorem RpB.det {bd b1 b2 : List Stm} {q : List Nat} {x : Stm} (h : RpB bd q x b1) (g : RpB bd q x b2) : b1 = b2 := by
  obtain ⟨i, p, st, st', e, h1, h2, rfl⟩ := h
  obtain ⟨j, p', su, su', e', g1, g2, rfl⟩ := g
  rw [e] at e'
  cases e'
  rw [h1] at g1
  cases g1
  rw [h2.det _ g2]
def NoSp : Sp := fun _ _ _ _ => False
/-- what a move is, and what it makes of a body -/
structure MvOk (Pre : Hp → Addr → List Stm → Option (List Stm) → Prop) : Prop where
  kp : ∀ {H H' : Hp} {mv : Addr} {bd : List Stm} {r : Option (List Stm)}, Pre H mv bd r → Kp [] H H' → Pre H' mv bd r
  data : ∀ {H : Hp} {mv : Addr} {bd : List Stm} {r : Option (List Stm)}, Pre H mv bd r → ∃ m d, Im H m (.ref mv) d ∧ SeqAt.shaped d = true ∧ d.canLay0 = true
def PreT (H : Hp) (mv : Addr) (bd : List Stm) (r : Option (List Stm)) : Prop := ∃ (pa : Addr) (ob ib : List Stm) (q : List Nat) (o oi : Og), H mv = some (.tup [.str "turn", .ref pa]) ∧ H pa = some (.tup (q.map fun i => V.int (i : Nat))) ∧ 1 ≤ q.length ∧ q.length ≤ 10 ∧ AtB bd q (o.st ob) ∧ (¬ 1 < ob.length → ob = [oi.st ib]) ∧ ((turnNo o oi ob = true ∧ r = none) ∨ (turnNo o oi ob = false ∧ ∃ bd', RpB bd q (oi.st [o.st ib]) bd' ∧ r = some bd'))
def spAfterG (CP CS : Addr) (Pre : Hp → Addr → List Stm → Option (List Stm) → Prop) : Sp := fun vs H Q _ => ∃ (pp mv ps : Addr) (n : Nat) (tbs : List (Str × List Str)) (bs : List Blk) (bd : List Stm) (r : Option (List Stm)), vs = [.ref pp, .ref mv] ∧ PrAt CP CS H pp ps n tbs bs bd ∧ Pre H mv bd r ∧
  (r = none → ∀ H', Kp [] H H' → Q .non H') ∧ (∀ bd', r = some bd' → ∀ (a : Addr) (vk vd : V) H', Kp [] H H' → H' a = some (.tup [vk, vd]) → Im H' 3 vk (dBlks bs) → Bd_ H' vd bd' → Q (.ref a) H')
def spMovedG (CP CS CM : Addr) (Pre : Hp → Addr → List Stm → Option (List Stm) → Prop) : Sp := fun vs H Q E => ∃ (pp mv ps : Addr) (tbs : List (Str × List Str)) (bs : List Blk) (bd : List Stm) (r : Option (List Stm)), vs = [.ref pp, .ref mv] ∧ PrAt CP CS H pp ps 8 tbs bs bd ∧ GoodTs tbs ∧ Pre H mv bd r ∧
  (r = none → ∀ (dd : Addr) H', Kp [] H H' → H' dd = some (.xd [("value", .ref mv)]) → E (.ref CM) (some dd) H') ∧ (∀ bd', r = some bd' → ProgOk 8 tbs bs bd' ∧ ∀ (p : Addr) H', Kp [] H H' → PrAt CP CS H' p ps 8 tbs bs bd' → Q (.ref p) H')
section
variable {P : Program} {w : World} {K : PySem.W.Frag} {mg : Str → Option Value} {base : Heap}
theorem ok_after_turn {CP CS : Addr} (B : Bi mg) (D : Dfn K mg "after_move" s_after_move ["program", "move"]) (clP : Cls K CP) (nb : NoAttr K CP "blocks") (ny : NoAttr K CP "body") (G_body_out : Has P w K mg base CX0 "body_out" ["body", "path"] 13 NoSp) (G_body_turn : Has P w K mg base CX0 "body_turn" ["body", "path"] 13 spTurnB) (G_body_seek : Has P w K mg base CX0 "body_seek" ["body", "path"] 13 NoSp) (G_body_scan : Has P w K mg base CX0 "body_scan" ["body", "path"] 13 NoSp) (G_top_body : Has P w K mg base CX0 "top_body" ["body", "kind", "at"] 13 NoSp) (G_after_hold : Has P w K mg base CX0 "after_hold" ["program", "path", "name"] 13 NoSp) : Has P w K mg base CX0 "after_move" ["program", "move"] 14 (spAfterG CP CS PreT) := by
  refine D.has sc_after_move (fun vs H Q E h => ?_) (fun f cdv A outer s H vs Q E hr h => ?_)
  · obtain ⟨pp, mv, ps, n, tbs, bs, bd, r, rfl, _⟩ := h; rfl
  · obtain ⟨pp, mv, ps, n, tbs, bs, bd, r, rfl, PA, ⟨pa, ob, ib', q, o, oi, hmv, hp, q1, q10, hat, hob, hr0⟩, kN, kY⟩ := h
    refine ⟨_, (pss_cons (ps_if (PW.pt (pw_or (pt_not (pt_val (pe_callB call_isi (by rfl) B.isinstance (by decide +kernel) (pa_cons (pv 1) (pa_cons (pe_bltn (v := .ty "tuple") (by rfl) B.tuple (by decide +kernel) rfl) pa_nil))))) (pw_or (pt_cmpR op_lt (pe_callB call_len (by rfl) B.len PySem.boot_len (pa_cons (pv 1) pa_nil)) pe_int (nomark _)) (pw_or1 (pt_not (pt_val (pe_callB call_isi (by rfl) B.isinstance (by decide +kernel) (pa_cons (pe_ix (r := rIxT K) ix_tup (pv 1) pe_int (fun _ _ => rfl)) (pa_cons (pe_bltn (v := .ty "str") (by rfl) B.str (by decide +kernel) rfl) pa_nil)))))))))
  (pss_one (ps_ret pe_non))
  pss_nil)
  (pss_cons (ps_if (PW.pt (pw_and (pt_cmpR op_eq (pe_callB call_len (by rfl) B.len PySem.boot_len (pa_cons (pv 1) pa_nil)) pe_int (nomark _)) (pw_and1 (pt_cmpR op_eq (pe_ix (r := rIxT K) ix_tup (pv 1) pe_int (fun _ _ => rfl)) pe_str (nomark _)))))
  (pss_one (ps_ret (pe_has G_after_hold (hr.mono (by omega)) (pa_cons (pv 0) (pa_cons (pe_ix (r := rIxT K) ix_tup (pv 1) pe_int (fun _ _ => rfl)) (pa_cons (pe_ix (r := rIxT K) ix_tup (pv 1) pe_int (fun _ _ => rfl)) pa_nil))))))
  pss_nil)
  (pss_cons (ps_if (pt_cmpR op_gt (pe_callB call_len (by rfl) B.len PySem.boot_len (pa_cons (pv 1) pa_nil)) pe_int (nomark _))
  (pss_one (ps_ret pe_non))
  pss_nil)
  (pss_cons (ps_if (pt_cmpR op_eq (pe_ix (r := rIxT K) ix_tup (pv 1) pe_int (fun _ _ => rfl)) pe_str (nomark _))
  (pss_one (ps_set (i := 2) sc_after_move.nd rfl (by first | exact Or.inl rfl | exact Or.inr rfl) (pe_has G_body_out (hr.mono (by omega)) (pa_cons (pe_fld (pv 0) rfl) (pa_cons (pe_ix (r := rIxT K) ix_tup (pv 1) pe_int (fun _ _ => rfl)) pa_nil)))))
  (pss_one (ps_if (pt_cmpR op_eq (pe_ix (r := rIxT K) ix_tup (pv 1) pe_int (fun _ _ => rfl)) pe_str (nomark _))
  (pss_one (ps_set (i := 2) sc_after_move.nd rfl (by first | exact Or.inl rfl | exact Or.inr rfl) (pe_has G_body_turn (hr.mono (by omega)) (pa_cons (pe_fld (pv 0) rfl) (pa_cons (pe_ix (r := rIxT K) ix_tup (pv 1) pe_int (fun _ _ => rfl)) pa_nil)))))
  (pss_one (ps_if (pt_cmpR op_eq (pe_ix (r := rIxT K) ix_tup (pv 1) pe_int (fun _ _ => rfl)) pe_str (nomark _))
  (pss_one (ps_set (i := 2) sc_after_move.nd rfl (by first | exact Or.inl rfl | exact Or.inr rfl) (pe_has G_body_seek (hr.mono (by omega)) (pa_cons (pe_fld (pv 0) rfl) (pa_cons (pe_ix (r := rIxT K) ix_tup (pv 1) pe_int (fun _ _ => rfl)) pa_nil)))))
  (pss_one (ps_if (pt_cmpR op_eq (pe_ix (r := rIxT K) ix_tup (pv 1) pe_int (fun _ _ => rfl)) pe_str (nomark _))
  (pss_one (ps_set (i := 2) sc_after_move.nd rfl (by first | exact Or.inl rfl | exact Or.inr rfl) (pe_has G_body_scan (hr.mono (by omega)) (pa_cons (pe_fld (pv 0) rfl) (pa_cons (pe_ix (r := rIxT K) ix_tup (pv 1) pe_int (fun _ _ => rfl)) pa_nil)))))
  (pss_one (ps_set (i := 2) sc_after_move.nd rfl (by first | exact Or.inl rfl | exact Or.inr rfl) (pe_has G_top_body (hr.mono (by omega)) (pa_cons (pe_fld (pv 0) rfl) (pa_cons (pe_ix (r := rIxT K) ix_tup (pv 1) pe_int (fun _ _ => rfl)) (pa_cons (pe_ix (r := rIxT K) ix_tup (pv 1) pe_int (fun _ _ => rfl)) pa_nil)))))))))))))
  (pss_cons (ps_if (pt_cmpR op_isN (pv 2) pe_non (nomark _))
  (pss_one (ps_ret pe_non))
  pss_nil)
  (pss_one (ps_ret (pe_tup (pa_cons (pe_fld (pv 0) rfl) (pa_cons (pv 2) pa_nil)))))))))), ?_⟩
    have hsz : sizeLine = 16777216 := rfl
    obtain ⟨dx, vk, vy, hpp, SA, ib, iy⟩ := id PA
    have hstr : Im H 0 (.str "turn") (.str "turn") := .str _ (by decide +kernel)
    refine ⟨_, rfl, _, _, _, _, _, rfl, .ty _, .base (.tup hmv), kit_ty (kb_tuple (.tuple [])), _, rfl, iteF ?_⟩
    refine ⟨_, rfl, _, _, rfl, .inr ⟨_, SqT.of hmv, rfl⟩, _, _, rfl, rfl, _, rfl, iteFs (by simp) ?_⟩
    refine ⟨_, rfl, mv, _, 0, .str "turn", rfl, rfl, SqT.of hmv, at0, _, _, _, _, _, rfl, .ty _, hstr.ty, kit_ty (kb_str _), _, rfl, iteF ?_⟩
    refine ⟨_, rfl, _, _, rfl, .inr ⟨_, SqT.of hmv, rfl⟩, rfl, _, rfl, iteFs (by simp) ?_⟩
    refine ⟨_, rfl, _, _, rfl, .inr ⟨_, SqT.of hmv, rfl⟩, _, _, rfl, rfl, _, rfl, iteFs (by simp) ?_⟩
    refine ⟨_, rfl, mv, _, 0, .str "turn", rfl, rfl, SqT.of hmv, at0, rfl, _, rfl, iteFs (by decide +kernel) ?_⟩
    refine ⟨_, rfl, mv, _, 0, .str "turn", rfl, rfl, SqT.of hmv, at0, rfl, _, rfl, iteTs (by simp) ?_⟩
    refine ⟨_, rfl, pp, CP, dx, _, _, rfl, hpp, clP, ny, rfl, _, rfl, mv, _, 1, .ref pa, rfl, rfl, SqT.of hmv, atI_nat (k := 1) rfl, ?_⟩
    refine ⟨vy, pa, bd, ob, ib', q, o, oi, rfl, ⟨_, iy⟩, hp, q1, q10, hat, hob, fun hn H1 k1 => ?_, fun hn bd' v H1 hbd' k1 hv => ?_⟩
    · refine ⟨_, rfl, rfl, _, rfl, iteTs (by simp) ?_⟩
      rcases hr0 with ⟨_, h⟩ | ⟨h, _⟩
      · exact kN h H1 k1
      · rw [hn] at h; cases h
    · obtain ⟨av, xv, rfl, _, _⟩ := hv.tup
      refine ⟨_, rfl, rfl, _, rfl, iteFs (by simp) ?_⟩
      refine ⟨_, rfl, pp, CP, dx, _, _, rfl, k1.at_ _ _ hpp (fun z => nomatch z), clP, nb, rfl, _, rfl, by show 2 ≤ sizeLine; decide, fun r hr' => ?_⟩
      have q2 : Kp [] H1 (upd H1 r (.tup [vk, .ref av])) := Kp.new hr'
      rcases hr0 with ⟨h, _⟩ | ⟨_, bd2, hb2, h⟩
      · rw [hn] at h; cases h
      · rw [hbd'.det hb2] at hv
        exact kY bd2 h r vk (.ref av) _ (k1.trans q2) upd_same (ib.kp (k1.trans q2)) (hv.kp q2)
end
theorem A2.mapL {α β : Type} {R : α → β → Prop} {f : β → α} : ∀ {bs : List β}, (∀ b ∈ bs, R (f b) b) → A2 R (bs.map f) bs
  | [], _ => .nil
  | b :: bs, h => .cons (h b List.mem_cons_self) (A2.mapL fun x hx => h x (List.mem_cons_of_mem _ hx))
theorem blkD_self {b : Blk} (g : BlkG b) : BlkD (dBlk b) b := ⟨_, _, rfl, .inr rfl, .inr rfl, g⟩
theorem prog_mk {CP CS : Addr} {H : Hp} {p dx ps : Addr} {xb xy : V} {tbs : List (Str × List Str)} {bs : List Blk} {body : List Stm} {n n0 : Nat} {db dy : PyData} {es es' : List PyData} {R : Hp → Prop} {E : XK} (np : H p = none) (ndx : H dx = none) (ne : dx ≠ p) (SA : ShapeAt CS H ps tbs) (g : GoodTs tbs) (hb : Dt (fun _ => True) false H n xb db) (rb : RowD db es) (ab : A2 BlkD es bs)
    (hy : Dt (fun _ => True) false H n xy dy) (ry : RowD dy es') (sy : StDs es' body) (ok : ProgOk n0 tbs bs body) (k : ∀ H', Kp [] H H' → PrAt CP CS H' p ps n0 tbs bs body → R H') : spProgI CP CS n0 [.ref p, .ref ps, xb, xy] (upd (upd H dx (.own p)) p (.ins CP dx [])) (fun u H2 => u = .non ∧ R H2) E := by
  have k0 : Kp [] H (upd (upd H dx (.own p)) p (.ins CP dx [])) := (Kp.new ndx).snoc (by rw [upd_ne (Ne.symm ne)]; exact np)
  exact ⟨p, dx, ps, xb, xy, tbs, bs, body, _, false, n, db, dy, es, es', rfl, upd_same, SA.kp k0 (fun z => nomatch z), g, hb.inH.keep k0, rb, ab, hy.inH.keep k0, ry, sy, ok, fun h => h.2 np, fun H' k' PA => ⟨rfl, k H' (k0.viaM k' fun x hx => .inr (by rw [List.mem_singleton.mp hx]; exact np)) PA⟩⟩

section
variable {P : Program} {w : World} {K : PySem.W.Frag} {mg : Str → Option Value} {base : Heap}
theorem ok_movedG {CP CS CM fP : Addr} {fdP : FuncData} {Pre : Hp → Addr → List Stm → Option (List Stm) → Prop} (MO : MvOk Pre) (B : Bi mg) (D : Dfn K mg "moved" s_moved ["program", "move"]) (mgP : mg "Program" = some (.ref CP)) (XP : InsX K CP) (clP : Cls K CP) (np : NoAttr K CP "shape") (EM : Err P w K mg base "BadMove" "value" CM)
    (MP : Mk K CP fP) (GP : FnOk P w K mg base CX0 16 fP fdP ["self", "shape", "blocks", "body"] (spProgI CP CS 8)) (bP : Binds K fdP ["self", "shape", "blocks", "body"] [])
    (G_after_move : Has P w K mg base CX0 "after_move" ["program", "move"] 14 (spAfterG CP CS Pre)) : Has P w K mg base (L2.CX P w) "moved" ["program", "move"] 18 (spMovedG CP CS CM Pre) := by
  refine D.hasX sc_moved (fun vs H Q E h => ?_) (fun f cdv A outer s H vs Q E hr h => ?_)
  · obtain ⟨pp, mv, ps, tbs, bs, bd, r, rfl, _⟩ := h; rfl
  · obtain ⟨pp, mv, ps, tbs, bs, bd, rr, rfl, PA, g, hpre, kN, kY⟩ := h
    refine ⟨_, (pss_cons (ps_if (pt_not (pt_val (pe_callB call_isi (by rfl) B.isinstance (by decide +kernel) (pa_cons (pv 0) (pa_cons (pe_glob (v := .ref CP) rfl mgP rfl) pa_nil)))))
  (pss_one ps_never)
  pss_nil)
  (pss_cons (ps_set (i := 2) sc_moved.nd rfl (by first | exact Or.inl rfl | exact Or.inr rfl) (pe_has G_after_move (hr.mono (by omega)) (pa_cons (pv 0) (pa_cons (pv 1) pa_nil))))
  (pss_cons (ps_if (pt_cmpR op_isN (pv 2) pe_non (nomark _))
  (pss_one (ps_raiseE rfl EM hr (by decide) (takes_of rfl rfl rfl rfl) (pa_cons (pv 1) pa_nil)))
  pss_nil)
  (pss_one (ps_try0 fun pn xe _ => (pss_one (ps_ret (pe_make (E := E0) MP GP (hr.mono (by omega)) rfl mgP bP .nil pass0 (pa_cons (pe_fldM (K := K) rfl (pv 0) rfl) (pa_cons (pe_ix (r := rIxT K) ix_tup (pv 2) pe_int (fun _ _ => rfl)) (pa_cons (pe_ix (r := rIxT K) ix_tup (pv 2) pe_int (fun _ _ => rfl)) pa_nil))))))))))), ?_⟩
    have hsz : sizeLine = 16777216 := rfl
    obtain ⟨dx, vk, vy, hpp, SA, ib, iy⟩ := id PA
    refine ⟨_, rfl, _, _, _, _, _, rfl, .own CP, XP.ty hpp, kit_self, _, rfl, iteF ?_⟩
    refine ⟨_, rfl, _, rfl, pp, mv, ps, 8, tbs, bs, bd, rr, rfl, PA, hpre, fun hn H1 k1 => ?_, fun bd' hbd' r vk' vd H1 k1 hr1 ik iv => ?_⟩
    · refine ⟨_, rfl, rfl, _, rfl, iteTs (by simp) ?_⟩
      exact ⟨_, rfl, by simp, fun b' hb' => err_in hb' fun dd hdd => kN hn dd _ (k1.snoc hdd) upd_same⟩
    · refine ⟨_, rfl, rfl, _, rfl, iteFs (by simp) ?_⟩
      obtain ⟨hok, kY'⟩ := kY bd' hbd'
      obtain ⟨m, iv⟩ := iv
      have db : Dt (fun _ => True) false H1 (max 3 m) vk' (dBlks bs) := (((ik.imp fun _ _ => trivial).weak).mono (Nat.le_max_left _ _))
      have dy : Dt (fun _ => True) false H1 (max 3 m) vd (.tuple (bd'.map dSt)) := (((iv.imp fun _ _ => trivial).weak).mono (Nat.le_max_right _ _))
      have bg := hok.1.2.2.2
      refine ⟨_, rfl, pp, CP, dx, _, _, rfl, k1.at_ _ _ hpp (fun z => nomatch z), clP, np, rfl, _, rfl, r, _, 0, vk', rfl, rfl, SqT.of hr1, at0, _, rfl, r, _, 1, vd, rfl, rfl, SqT.of hr1, atI_nat (k := 1) rfl, fun pn dxn nn ndn nen => ?_⟩
      exact prog_mk nn ndn nen (SA.kp k1 (fun z => nomatch z)) g db (.inr rfl) (A2.mapL fun x hx => blkD_self (bg x hx)) dy (.inr rfl) (by rw [← dSts_map]; exact stds_self bd') hok fun H2 k2 PA2 => kY' pn H2 (k1.trans k2) PA2
end
end Fm

namespace Fm
open PySem PySem.Spec PyProof.Rows L2
/-! ### _law_of, _law_idle_put, _law_loop -/
def spIdle : Sp := fun vs H Q _ => ∃ (b c ba : Addr) (bl : Blk), vs = [.ref b, .ref ba] ∧ Bag H b c ∧ Im H 2 (.ref ba) (dBlk bl) ∧ BlkG bl ∧ ∀ (a : Addr) ts adds H', Bag H' b c → Kp [b] H H' → Sm_ H' (.ref a) (.put bl.1 ts adds) → (∀ sc, LPutOk sc bl ts adds) → Q (.ref a) H'
def spLoop : Sp := fun vs H Q _ => ∃ (b c t ha s : Addr) (xs : List V) (tbs : List (Str × List Str)) (hb : Blk) (sc : Sc), vs = [.ref b, .ref t, .ref ha, .ref s] ∧ Bag H b c ∧ H t = some (.lst xs) ∧ t ≠ b ∧ ImAll H 2 xs (tbs.map dTab) ∧ GoodTs tbs ∧ Im H 2 (.ref ha) (dBlk hb) ∧ BlkG hb ∧ ScAt b H s sc ∧ ScOk sc ∧ sc.length ≤ 2 ∧
  ∀ (a pa s' : Addr) (o : Og) (ext : Sc) H', Bag H' b c → Kp [b] H H' → H' a = some (.tup [.ref pa, .ref s']) → Im H' 3 (.ref pa) (.tuple o.dat) → OgR tbs [hb] sc o ext → ScAt b H' s' (sc ++ ext) → ScOk (sc ++ ext) → Q (.ref a) H'
section
variable {P : Program} {w : World} {K : PySem.W.Frag} {mg : Str → Option Value} {base : Heap}
theorem ok_lawof (B : Bi mg) (D : Dfn K mg "_law_of" s__law_of ["_law_term_here", "_law_variable"]) : Has P w K mg base CX0 "_law_of" ["_law_term_here", "_law_variable"] 1 spNames := by
  refine D.has sc__law_of (fun vs H Q E h => ?_) (fun f cdv A outer s H vs Q E hr h => ?_)
  · obtain ⟨v, t, u, m, rfl, _⟩ := h; rfl
  · obtain ⟨v, t, u, m, rfl, hv, k⟩ := h
    refine ⟨_, (pss_one (ps_ret (pe_and (pe_callB call_isi (by rfl) B.isinstance (by decide +kernel) (pa_cons (pv 0) (pa_cons (pe_bltn (v := .ty "tuple") (by rfl) B.tuple (by decide +kernel) rfl) pa_nil))) (pe_one (pe_cmpR op_eq (pe_ix (r := rIxT K) ix_tup (pv 0) pe_int (fun _ _ => rfl)) (pv 1) (nomark _)))))), ?_⟩
    refine ⟨_, rfl, _, _, _, _, _, rfl, .ty _, hv.ty, kit_ty (kb_tuple _), _, rfl, ?_⟩
    cases t with
    | val i => exact iteF k
    | of x f =>
      refine iteT ?_
      obtain ⟨a, m2, zs, rfl, _, ha, az⟩ := Dt.tupI (show Im H m v (.tuple [.str "of", .str x, .str f]) from hv)
      obtain ⟨v1, w1, rfl, h1, g1⟩ := az.consI
      obtain ⟨v2, w2, rfl, h2, g2⟩ := g1.consI
      have e := h2.strI.1; subst e
      refine ⟨_, rfl, a, _, 1, .str x, rfl, rfl, SqT.of ha, atI_nat (k := 1) rfl, _, rfl, rfl, ?_⟩
      rw [show decide (V.str x = V.str u) = tmIs (.of x f) u from decide_eq_decide.mpr ⟨fun e => V.str.inj e, fun e => congrArg _ e⟩]
      exact k
theorem ok_idle_put (B : Bi mg) (D : Dfn K mg "_law_idle_put" s__law_idle_put ["_law_bag_here", "_law_block"]) (G_value : Has P w K mg base CX0 "_law_value" ["_law_bag_here"] 2 spValue) : Has P w K mg base CX0 "_law_idle_put" ["_law_bag_here", "_law_block"] 3 spIdle := by
  refine D.has sc__law_idle_put (fun vs H Q E h => ?_) (fun f cdv A outer s H vs Q E hr h => ?_)
  · obtain ⟨b, c, ba, bl, rfl, _⟩ := h; rfl
  · obtain ⟨b, c, ba, bl, rfl, BG, ib, bg, k⟩ := h
    refine ⟨_, (pss_one (ps_ret (pe_tup (pa_cons pe_str (pa_cons (pe_ix (r := rIxT K) ix_tup (pv 1) pe_int (fun _ _ => rfl)) (pa_cons (pe_callTy (r := rTupO K) call_tuple_of (by rfl) B.tuple (by decide +kernel) (pa_cons (pe_lc (own := [("_law_key", 2)]) (g := gName 2) (by rfl) sc__law_idle_put.nd (pi_tup (pe_ix (r := rIxT K) ix_tup (pv 1) pe_int (fun _ _ => rfl))) (blkOk_by (own := [("_law_key", 2)]) (N := N__law_idle_put) (sc := defScope s__law_idle_put) (by decide +kernel)) (fun _ _ _ _ _ => (pg_name (i := 2) sc__law_idle_put.nd rfl (by first | exact Or.inl rfl | exact Or.inr rfl))) (fun _ _ _ _ _ => pts_nil) (fun _ _ _ _ _ => (pe_has G_value (hr.mono (by omega)) (pa_cons (pv 0) pa_nil)))) pa_nil)) (pa_cons (pe_callTy (r := rTupO K) call_tuple_of (by rfl) B.tuple (by decide +kernel) (pa_cons (pe_lc (own := [("_law_each", 3)]) (g := gName 3) (by rfl) sc__law_idle_put.nd (pi_tup (pe_ix (r := rIxT K) ix_tup (pv 1) pe_int (fun _ _ => rfl))) (blkOk_by (own := [("_law_each", 3)]) (N := N__law_idle_put) (sc := defScope s__law_idle_put) (by decide +kernel)) (fun _ _ _ _ _ => (pg_name (i := 3) sc__law_idle_put.nd rfl (by first | exact Or.inl rfl | exact Or.inr rfl))) (fun _ _ _ _ _ => pts_nil) (fun _ _ _ _ _ => (pe_tup pa_nil))) pa_nil)) pa_nil))))))), ?_⟩
    have hsz : sizeLine = 16777216 := rfl
    obtain ⟨_, ka, sa, eb, hb, hk, hsu⟩ := blk_at ib
    cases eb
    have k3 := bg.k3
    have s3 := bg.s3
    refine ⟨_, rfl, ba, _, 0, .str bl.1, rfl, rfl, SqT.of hb, atI_nat (k := 0) rfl, ?_⟩
    refine ⟨_, rfl, ba, _, 1, .ref ka, rfl, rfl, SqT.of hb, atI_nat (k := 1) rfl, ka, rfl, ⟨_, SqT.of hk⟩, fun D1 hD1 => ?_⟩
    obtain ⟨D1b, D1c⟩ := BG.new hD1
    refine lc_it (walk_tup (xs := bl.2.1.map V.str)) (fun i H' => Bag H' b c ∧ Kp [b] H H' ∧ ∃ (ts : List Tm) (zs : List V), H' D1 = some (.lst zs) ∧ ImAll H' 1 zs (ts.map dTm) ∧ ts.length = i ∧ ∀ t ∈ ts, ∃ i, t = .val i ∧ InV i) ⟨BG.keep0 (Kp.new hD1), (Kp.new hD1), [], [], upd_same, .nil, rfl, fun t h => nomatch h⟩ (fun i H' _ h => SqT.of (h.2.1.tp _ _ hk)) ?_ ?_
    · rintro i u H1 H2 hi ⟨B1, k1, ts, zs, hz, iz, lt, okt⟩ ⟨rfl, hu1⟩
      refine ⟨rfl, _, rfl, b, c, rfl, B1, fun v H3 iv B3 kk3 => ?_⟩
      have hz3 := kk3.at_ _ _ hz (by simpa using D1b)
      have lz : zs.length = ts.length := by rw [iz.len, List.length_map]
      have kU : Kp [D1] H3 (upd H3 D1 (.lst (zs ++ [.int v]))) := Kp.updL hz3 (by simp)
      rw [List.length_map] at hi
      refine ⟨zs, hz3, by show _ < 16777216; omega, B3.keep kU (by simpa using Ne.symm D1b) (by simpa using Ne.symm D1c), (k1.trans kk3).late hD1, ts ++ [.val v], _, upd_same, ?_, by simp [lt], fun t ht => ?_⟩
      · rw [List.map_append]
        exact DtAll.append ((iz.kp kk3).kp kU) (.cons (.int _) .nil)
      · rcases List.mem_append.mp ht with h | h
        · exact okt t h
        · rw [List.mem_singleton.mp h]; exact ⟨v, rfl, iv⟩
    rintro H1 ⟨B1, k1, ts, zs, hz, iz, lt, okt⟩
    rw [List.length_map] at lt
    have lz : zs.length = ts.length := by rw [iz.len, List.length_map]
    refine ⟨D1, _, rfl, .inl ⟨SqL.of hz, fun t1 nt1 => ?_⟩⟩
    have q1 : Kp [] H1 (upd H1 t1 (.tup zs)) := Kp.new nt1
    have it1 : Im (upd H1 t1 (.tup zs)) 2 (.ref t1) (.tuple (ts.map dTm)) := im_tup nt1 iz (by omega)
    have B2 := B1.keep0 q1
    have k2 := k1.trans q1.zero
    generalize upd H1 t1 (.tup zs) = H2 at q1 it1 B2 k2
    -- the sums
    refine ⟨_, rfl, ba, _, 2, .ref sa, rfl, rfl, SqT.of (k2.tp _ _ hb), atI_nat (k := 2) rfl, sa, rfl, ⟨_, SqT.of (k2.tp _ _ hsu)⟩, fun D2 hD2 => ?_⟩
    obtain ⟨D2b, D2c⟩ := B2.new hD2
    refine lc_it (walk_tup (xs := bl.2.2.map V.str)) (fun i H' => Bag H' b c ∧ Kp [] H2 H' ∧ ∃ (adds : List (List Prd)) (zs : List V), H' D2 = some (.lst zs) ∧ ImAll H' 4 zs (adds.map dPrs) ∧ adds.length = i ∧ ∀ t ∈ adds, t = []) ⟨B2.keep0 (Kp.new hD2), (Kp.new hD2), [], [], upd_same, .nil, rfl, fun t h => nomatch h⟩ (fun i H' _ h => SqT.of (h.2.1.tp _ _ (k2.tp _ _ hsu))) ?_ ?_
    · rintro i u H3 H4 hi ⟨B3, k3', adds, zs, hz, iz, lt, okt⟩ ⟨rfl, hu1⟩
      refine ⟨rfl, by show 0 ≤ sizeLine; decide, fun e he => ?_⟩
      have qe : Kp [] H4 (upd H4 e (.tup [])) := Kp.new he
      have ee : upd H4 e (.tup []) e = some (.tup []) := upd_same
      have ie : Im (upd H4 e (.tup [])) 4 (.ref e) (dPrs []) := .tup ee ⟨by simp, ⟨_, ee⟩⟩ .nil
      have B4 := B3.keep0 qe
      generalize upd H4 e (.tup []) = H5 at qe ie B4
      have hz3 := qe.at_ _ _ hz (fun z => nomatch z)
      have lz : zs.length = adds.length := by rw [iz.len, List.length_map]
      have kU : Kp [D2] H5 (upd H5 D2 (.lst (zs ++ [.ref e]))) := Kp.updL hz3 (by simp)
      rw [List.length_map] at hi
      refine ⟨zs, hz3, by show _ < 16777216; omega, B4.keep kU (by simpa using Ne.symm D2b) (by simpa using Ne.symm D2c), (k3'.trans qe).late hD2, adds ++ [[]], _, upd_same, ?_, by simp [lt], fun t ht => ?_⟩
      · rw [List.map_append]
        exact DtAll.append ((iz.kp qe).kp kU) (.cons (ie.kp kU) .nil)
      · rcases List.mem_append.mp ht with h | h
        · exact okt t h
        · rw [List.mem_singleton.mp h]
    rintro H3 ⟨B3, k3', adds, ys, hy, iy, la, oka⟩
    rw [List.length_map] at la
    have ly : ys.length = adds.length := by rw [iy.len, List.length_map]
    refine ⟨D2, _, rfl, .inl ⟨SqL.of hy, fun t3 nt3 => ?_⟩⟩
    have q3 : Kp [] H3 (upd H3 t3 (.tup ys)) := Kp.new nt3
    have it5 : Im (upd H3 t3 (.tup ys)) 5 (.ref t3) (dAdds adds) := im_tup nt3 iy (by omega)
    have B5 := B3.keep0 q3
    have it6 := (it1.kp k3').kp q3
    generalize upd H3 t3 (.tup ys) = H5 at q3 it5 B5 it6
    refine ⟨by show 4 ≤ sizeLine; decide, fun q nq => ?_⟩
    have q4 : Kp [] H5 (upd H5 q (.tup [.str "put", .str bl.1, .ref t1, .ref t3])) := Kp.new nq
    refine k q ts adds _ (B5.keep0 q4) (k2.trans ((k3'.trans q3).trans q4).zero) ⟨6, ?_⟩ (fun sc => ⟨by omega, fun t ht => ?_, by omega, fun ps hps => ?_⟩)
    · rw [dSt]
      exact .tup upd_same ⟨by simp, _, upd_same⟩ (.cons (.str _ (by decide)) (.cons (.str _ (Nat.le_trans bg.nm.2.1 (by decide))) (.cons ((it6.kp q4).mono (by decide)) (.cons (it5.kp q4) .nil))))
    · obtain ⟨i, rfl, hi⟩ := okt t ht; exact hi
    · rw [oka ps hps]; exact ⟨by simp, fun p h => nomatch h⟩
theorem ok_loop (B : Bi mg) (D : Dfn K mg "_law_loop" s__law_loop ["_law_bag_here", "_law_tables_here", "_law_held", "_law_scope"]) (G_pick : Has P w K mg base CX0 "_law_pick" ["_law_bag_here", "_law_many"] 1 spPick) (G_opening : Has P w K mg base CX0 "_law_opening" ["_law_bag_here", "_law_tables_here", "_law_readable", "_law_scope"] 4 spOpeningG) (G_term : Has P w K mg base CX0 "_law_term" ["_law_bag_here", "_law_scope"] 3 spLTerm) : Has P w K mg base CX0 "_law_loop" ["_law_bag_here", "_law_tables_here", "_law_held", "_law_scope"] 5 spLoop := by
  refine D.has sc__law_loop (fun vs H Q E h => ?_) (fun f cdv A outer s0 H vs Q E hr h => ?_)
  · obtain ⟨b, c, t, ha, s, xs, tbs, hb, sc, rfl, _⟩ := h; rfl
  · obtain ⟨b, c, t, ha, s, xs, tbs, hb, sc, rfl, BG, ht, tb, ix, g, ih, hbg, SA, ok, l2, k⟩ := h
    refine ⟨_, (pss_cons (ps_if (pt_cmpR op_eq (pe_has G_pick (hr.mono (by omega)) (pa_cons (pv 0) (pa_cons pe_int pa_nil))) pe_int (nomark _))
  (pss_one (ps_ret (pe_tup (pa_cons (pe_tup (pa_cons pe_str (pa_cons (pe_has G_term (hr.mono (by omega)) (pa_cons (pv 0) (pa_cons (pv 3) pa_nil))) (pa_cons (pe_has G_term (hr.mono (by omega)) (pa_cons (pv 0) (pa_cons (pv 3) pa_nil))) pa_nil)))) (pa_cons (pv 3) pa_nil)))))
  pss_nil)
  (pss_cons (ps_asg (pe_has G_opening (hr.mono (by omega)) (pa_cons (pv 0) (pa_cons (pv 1) (pa_cons (pe_lst (pa_cons (pv 2) pa_nil)) (pa_cons (pv 3) pa_nil))))) (pg_tup rfl (pgs_cons (pg_name (i := 4) sc__law_loop.nd rfl (by first | exact Or.inl rfl | exact Or.inr rfl)) (pgs_cons (pg_name (i := 5) sc__law_loop.nd rfl (by first | exact Or.inl rfl | exact Or.inr rfl)) pgs_nil))))
  (pss_one (ps_ret (pe_tup (pa_cons (pv 4) (pa_cons (pe_op op_cat (pv 3) (pe_lst (pa_cons (pv 5) pa_nil))) pa_nil))))))), ?_⟩
    have hsz : sizeLine = 16777216 := rfl
    refine ⟨_, rfl, b, c, 10, rfl, BG, by decide, by decide, fun r H1 r0 r1 B1 k1 => ?_⟩
    have SA1 := SA.kp k1
    refine ⟨rfl, _, rfl, ite2 (fun _ => ?_) (fun _ => ?_)⟩
    · refine ⟨_, rfl, _, rfl, b, c, s, sc, rfl, B1, SA1, ok, fun v1 tm1 H2 B2 k2 it1 tk1 => ?_⟩
      refine ⟨_, rfl, _, rfl, b, c, s, sc, rfl, B2, SA1.kp k2, ok, fun v2 tm2 H3 B3 k3 it2 tk2 => ?_⟩
      refine ⟨by show 3 ≤ sizeLine; decide, fun p np => ⟨_, rfl, by show 2 ≤ sizeLine; decide, fun a na => ?_⟩⟩

      have q1 : Kp [] H3 (upd H3 p (.tup [.str "same", v1, v2])) := Kp.new np
      have e1 : upd H3 p (.tup [.str "same", v1, v2]) p = some (.tup [.str "same", v1, v2]) := upd_same
      have B4 := B3.keep0 q1
      generalize upd H3 p (.tup [.str "same", v1, v2]) = H4 at q1 e1 B4 na ⊢
      have q2 : Kp [] H4 (upd H4 a (.tup [.ref p, .ref s])) := Kp.new na
      have e2 : upd H4 a (.tup [.ref p, .ref s]) a = some (.tup [.ref p, .ref s]) := upd_same
      generalize upd H4 a (.tup [.ref p, .ref s]) = H5 at q2 e2 ⊢
      have q := q1.trans q2
      have k05 := ((k1.trans k2).trans k3).trans q.zero
      have e1' := q2.tp _ _ e1
      exact k a p s (.same tm1 tm2) [] H5 (B4.keep0 q2) k05 e2 (.tup e1' ⟨by simp, ⟨_, e1'⟩⟩ (.cons (.str _ (by decide)) (.cons (((it1.kp k3).kp q).mono (by decide)) (.cons ((it2.kp q).mono (by decide)) .nil)))) (.inr ⟨tm1, tm2, rfl, tk1, tk2, rfl⟩) (by rw [List.append_nil]; exact SA.kp k05) (by rw [List.append_nil]; exact ok)
    · refine ⟨_, rfl, _, rfl, _, rfl, by show 1 ≤ sizeLine; decide, fun D hD => ?_⟩
      obtain ⟨Db, _⟩ := B1.new hD
      have q1 : Kp [] H1 (upd H1 D (.lst [.ref ha])) := Kp.new hD
      have hDD : upd H1 D (.lst [.ref ha]) D = some (.lst [.ref ha]) := upd_same
      have B1' := B1.keep0 q1
      generalize upd H1 D (.lst [.ref ha]) = H2 at q1 hDD B1' ⊢
      have k2 := k1.trans q1.zero
      refine ⟨_, rfl, b, c, t, D, s, xs, [.ref ha], tbs, [hb], sc, rfl, B1', k2.at_ _ _ ht (by simpa using tb), tb, ImAll.kp k2 ix, g, hDD, Db, .cons (Im.kp k2 ih) .nil, (fun x h => by rw [List.mem_singleton.mp h]; exact hbg), by simp, SA.kp k2, ok, by omega, fun a1 pa ea o fs ss H3 BG3 k3 ha1 ip ie nv nnv oko => ?_⟩
      refine ⟨a1, _, rfl, SqT.of ha1, rfl, _, _, rfl, _, _, rfl, rfl, ?_⟩
      have k03 := k2.trans k3
      obtain ⟨sb, ss', hss, iss⟩ := SA.kp k03
      have lss : ss'.length = sc.length := by rw [iss.len, List.length_map]
      have q0 := k03
      obtain ⟨fs4, ss3, l1, lw, _⟩ := og_small g (fun x h => by rw [List.mem_singleton.mp h]; exact hbg) oko
      have scok : ScOk (sc ++ [(o.v, fs, ss)]) := scOk_snoc (tbs := tbs) ok nv nnv l1 fs4 ss3 lw (by
        refine Nat.le_trans (List.length_filter_le _ _) ?_
        rw [List.length_append]; show _ + 1 ≤ _; omega) (by omega)
      refine ⟨_, rfl, _, rfl, _, rfl, by show 1 ≤ sizeLine; decide, fun l1' hl1 => ?_⟩
      have q4 : Kp [] H3 (upd H3 l1' (.lst [.ref ea])) := Kp.new hl1
      have hl1' : upd H3 l1' (.lst [.ref ea]) l1' = some (.lst [.ref ea]) := upd_same
      generalize upd H3 l1' (.lst [.ref ea]) = H4 at q4 hl1'
      refine ⟨s, l1', ss', [.ref ea], rfl, rfl, q4.at_ _ _ hss (fun z => nomatch z), hl1', by simp; omega, fun l2 hl2 => ?_⟩
      have q5 : Kp [] H4 (upd H4 l2 (.lst (ss' ++ [.ref ea]))) := Kp.new hl2
      have hl2' : upd H4 l2 (.lst (ss' ++ [.ref ea])) l2 = some (.lst (ss' ++ [.ref ea])) := upd_same
      have l2b : l2 ≠ b := ((BG3.keep0 q4).new hl2).1
      generalize upd H4 l2 (.lst (ss' ++ [.ref ea])) = H5 at q5 hl2'
      have q45 := q4.trans q5
      refine ⟨by show 2 ≤ sizeLine; decide, fun a na => ?_⟩
      have q6 : Kp [] H5 (upd H5 a (.tup [.ref pa, .ref l2])) := Kp.new na
      have e6 : upd H5 a (.tup [.ref pa, .ref l2]) a = some (.tup [.ref pa, .ref l2]) := upd_same
      generalize upd H5 a (.tup [.ref pa, .ref l2]) = H6 at q6 e6
      have q46 := q45.trans q6
      refine k a pa l2 o [(o.v, fs, ss)] H6 (BG3.keep0 q46) (k03.trans q46.zero) e6 (ip.kp q46) (.inl ⟨fs, ss, oko, nv, nnv, rfl⟩) ⟨l2b, _, q6.at_ _ _ hl2' (fun z => nomatch z), ?_⟩ scok
      rw [List.map_append]
      exact DtAll.append (ImAll.kp q46 iss) (.cons (Im.kp q46 ie) .nil)
end
end Fm

namespace Fm
open PySem PySem.Spec PyProof.Rows L2
/-! ### _law_wrapped -/
/-- the statement within openings (the innermost first), y beside it at one depth -/
def wr (y : Stm) (k : Int) (side : Bool) : Nat → Stm → List Nat → List Og → Stm × List Nat
  | _, st, p, [] => (st, p)
  | d, st, p, o :: os => if (d : Int) = k then (if side then wr y k side (d + 1) (o.st [y, st]) (1 :: p) os else wr y k side (d + 1) (o.st [st, y]) (0 :: p) os) else wr y k side (d + 1) (o.st [st]) (0 :: p) os
theorem wr_at {y x : Stm} {k : Int} {side : Bool} : ∀ {os : List Og} {d : Nat} {st : Stm} {p : List Nat}, At st p x → At (wr y k side d st p os).1 (wr y k side d st p os).2 x
  | [], _, _, _, h => h
  | o :: os, d, st, p, h => by
    unfold wr
    split
    · split
      · exact wr_at (.cons (o := o) (bd := [y, st]) (i := 1) rfl h)
      · exact wr_at (.cons (o := o) (bd := [st, y]) (i := 0) rfl h)
    · exact wr_at (.cons (o := o) (bd := [st]) (i := 0) rfl h)
theorem wr_rp {y z : Stm} {k : Int} {side : Bool} : ∀ {os : List Og} {d : Nat} {st st' : Stm} {p : List Nat}, Rp st p z st' → Rp (wr y k side d st p os).1 (wr y k side d st p os).2 z (wr y k side d st' p os).1
  | [], _, _, _, _, h => h
  | o :: os, d, st, st', p, h => by
    unfold wr
    split
    · split
      · exact wr_rp (.cons (o := o) (bd := [y, st]) (i := 1) rfl h)
      · exact wr_rp (.cons (o := o) (bd := [st, y]) (i := 0) rfl h)
    · exact wr_rp (.cons (o := o) (bd := [st]) (i := 0) rfl h)
theorem wr_path {y : Stm} {k : Int} {side : Bool} : ∀ {os : List Og} {d : Nat} {st st' : Stm} {p : List Nat}, (wr y k side d st p os).2 = (wr y k side d st' p os).2
  | [], _, _, _, _ => rfl
  | o :: os, d, st, st', p => by
    unfold wr
    split
    · split
      · exact wr_path
      · exact wr_path
    · exact wr_path
theorem wr_len {y : Stm} {k : Int} {side : Bool} : ∀ {os : List Og} {d : Nat} {st : Stm} {p : List Nat}, (wr y k side d st p os).2.length = p.length + os.length
  | [], _, _, _ => rfl
  | o :: os, d, st, p => by
    unfold wr
    split
    · split
      · rw [wr_len, List.length_cons, List.length_cons]; omega
      · rw [wr_len, List.length_cons, List.length_cons]; omega
    · rw [wr_len, List.length_cons, List.length_cons]; omega
theorem wr_rt {tbs : List (Str × List Str)} {rd bs : List Blk} {y : Stm} {k : Int} {side : Bool} (hy : ∀ sc, RT tbs rd bs sc y) : ∀ {os : List Og} {d : Nat} {st : Stm} {p : List Nat} {sc : Sc}, OgsR tbs rd os.reverse sc → RT tbs rd bs sc st → RT tbs rd bs [] (wr y k side d st p os).1
  | [], _, _, _, _, h, r => by
    generalize e : ([] : List Og).reverse = l at h
    cases h with
    | nil => exact r
    | snoc a b => simp at e
  | o :: os, d, st, p, sc, h, r => by
    rw [List.reverse_cons] at h
    obtain ⟨sc0, ext, h1, h2, rfl⟩ := h.inv
    unfold wr
    split
    · split
      · exact wr_rt hy h1 (.wrap h2 ⟨(by decide : 1 ≤ 2), (by decide : 2 ≤ 8)⟩ fun x hx => by
          rcases List.mem_cons.mp hx with rfl | hx
          · exact hy _
          · rw [List.mem_singleton.mp hx]; exact r)
      · exact wr_rt hy h1 (.wrap h2 ⟨(by decide : 1 ≤ 2), (by decide : 2 ≤ 8)⟩ fun x hx => by
          rcases List.mem_cons.mp hx with rfl | hx
          · exact r
          · rw [List.mem_singleton.mp hx]; exact hy _)
    · exact wr_rt hy h1 (.wrap h2 ⟨(by decide : 1 ≤ 1), (by decide : 1 ≤ 8)⟩ fun x hx => by
          rw [List.mem_singleton.mp hx]; exact r)
/-- the puts, the number and the depth -/
structure PQ (b1 : Str) (bs : List Str) (k : Int) (d : Nat) (n m : Nat) (st : Stm) : Prop where
  nd : (putsS st).Nodup
  no : k < d ∨ (b1 ∉ putsS st)
  sub : ∀ b ∈ putsS st, b ∈ bs
  sz : szS st ≤ n + (if k < d then 1 else 0)
  dp : dpS st ≤ m
theorem wr_pq {y : Stm} {b1 : Str} {bs : List Str} {k : Int} {side : Bool} (hb : b1 ∈ bs) (py : putsS y = [b1]) (sy : szS y = 1) (dy : dpS y = 0) : ∀ {os : List Og} {d n m : Nat} {st : Stm} {p : List Nat}, PQ b1 bs k d n m st → PQ b1 bs k (d + os.length) (n + os.length) (m + os.length) (wr y k side d st p os).1
  | [], _, _, _, _, _, h => h
  | o :: os, d, n, m, st, p, h => by
    have e : ∀ x, x + (o :: os).length = (x + 1) + os.length := fun x => by rw [List.length_cons]; omega
    rw [e, e, e]
    unfold wr
    split
    · rename_i hk
      have n1 : b1 ∉ putsS st := h.no.resolve_left (by omega)
      have s1 : szS st ≤ n := by have := h.sz; rwa [if_neg (by omega)] at this
      split
      · refine wr_pq hb py sy dy ⟨?_, .inl (by omega), fun b hb' => ?_, ?_, ?_⟩
        · rw [puts_og, putsB, putsB, putsB, py, List.append_nil]; exact List.nodup_cons.mpr ⟨n1, h.nd⟩
        · rw [puts_og, putsB, putsB, putsB, py, List.append_nil] at hb'
          rcases List.mem_cons.mp hb' with rfl | hb'
          · exact hb
          · exact h.sub b hb'
        · rw [sz_og, szB, szB, szB, sy, if_pos (by omega)]; omega
        · rw [dp_og, dpB, dpB, dpB, dy]; have := h.dp; omega
      · refine wr_pq hb py sy dy ⟨?_, .inl (by omega), fun b hb' => ?_, ?_, ?_⟩
        · rw [puts_og, putsB, putsB, putsB, py, List.append_nil]; exact nd_snoc h.nd n1
        · rw [puts_og, putsB, putsB, putsB, py, List.append_nil] at hb'
          rcases List.mem_append.mp hb' with hb' | hb'
          · exact h.sub b hb'
          · rw [List.mem_singleton.mp hb']; exact hb
        · rw [sz_og, szB, szB, szB, sy, if_pos (by omega)]; omega
        · rw [dp_og, dpB, dpB, dpB, dy]; have := h.dp; omega
    · rename_i hk
      refine wr_pq hb py sy dy ⟨?_, ?_, fun b hb' => ?_, ?_, ?_⟩
      · rw [puts_og, putsB, putsB, List.append_nil]; exact h.nd
      · rw [puts_og, putsB, putsB, List.append_nil]
        exact h.no.imp (fun z => by omega) id
      · rw [puts_og, putsB, putsB, List.append_nil] at hb'; exact h.sub b hb'
      · rw [sz_og, szB, szB]
        have := h.sz
        by_cases q : k < (d : Int)
        · rw [if_pos q] at this; rw [if_pos (by omega)]; omega
        · rw [if_neg q] at this; omega
      · rw [dp_og, dpB, dpB]; have := h.dp; omega
def spWrapped : Sp := fun vs H Q _ => ∃ (oA sa : Addr) (vb : V) (os : List V) (ops : List Og) (k : Int) (sd : Bool) (st y : Stm), vs = [.ref oA, .ref sa, vb, .int k, .int (if sd then 1 else 0)] ∧ H oA = some (.lst os) ∧ ImAll H 3 os (ops.map fun o => .tuple o.dat) ∧ ops.length ≤ 1000 ∧ Sm_ H (.ref sa) st ∧ Sm_ H vb y ∧
  ∀ (a ra pa : Addr) H', Kp [] H H' → H' a = some (.tup [.ref ra, .ref pa]) → Sm_ H' (.ref ra) (wr y k sd 0 st [] ops.reverse).1 → H' pa = some (.tup ((wr y k sd 0 st [] ops.reverse).2.map fun i => V.int (i : Nat))) → Q (.ref a) H'
section
variable {P : Program} {w : World} {K : PySem.W.Frag} {mg : Str → Option Value} {base : Heap}
theorem ok_wrapped (B : Bi mg) (hrev : mg "reversed" = none) (D : Dfn K mg "_law_wrapped" s__law_wrapped ["_law_openings", "_law_statement", "_law_beside", "_law_at", "_law_side"]) : Has P w K mg base CX0 "_law_wrapped" ["_law_openings", "_law_statement", "_law_beside", "_law_at", "_law_side"] 1 spWrapped := by
  refine D.has sc__law_wrapped (fun vs H Q E h => ?_) (fun f cdv A outer s0 H vs Q E hr h => ?_)
  · obtain ⟨oA, sa, vb, os, ops, k, sd, st, y, rfl, _⟩ := h; rfl
  · obtain ⟨oA, sa, vb, os, ops, k, sd, st, y, rfl, ho, io, lo, sm, sy, kq⟩ := h
    refine ⟨_, (pss_cons (ps_set (i := 5) sc__law_wrapped.nd rfl (by first | exact Or.inl rfl | exact Or.inr rfl) (pe_tup pa_nil))
  (pss_cons (ps_set (i := 6) sc__law_wrapped.nd rfl (by first | exact Or.inl rfl | exact Or.inr rfl) pe_int)
  (pss_cons (ps_for PassesOwn.never rfl (pi_reversed rfl hrev (pa_cons (pv 0) pa_nil)) (pg_name (i := 7) sc__law_wrapped.nd rfl (by first | exact Or.inl rfl | exact Or.inr rfl))
  (pss_cons (ps_set (i := 8) sc__law_wrapped.nd rfl (by first | exact Or.inl rfl | exact Or.inr rfl) (pe_tup (pa_cons (pv 1) pa_nil)))
  (pss_cons (ps_set (i := 9) sc__law_wrapped.nd rfl (by first | exact Or.inl rfl | exact Or.inr rfl) pe_int)
  (C8.pss_cut (ps_if (PW.pt (pw_and (pt_cmpR op_eq (pv 6) (pv 3) (nomark _)) (pw_and1 (pt_cmpR op_eq (pv 4) pe_int (nomark _)))))
  (pss_cons (ps_set (i := 8) sc__law_wrapped.nd rfl (by first | exact Or.inl rfl | exact Or.inr rfl) (pe_tup (pa_cons (pv 2) (pa_cons (pv 1) pa_nil))))
  (pss_one (ps_set (i := 9) sc__law_wrapped.nd rfl (by first | exact Or.inl rfl | exact Or.inr rfl) pe_int)))
  (pss_one (ps_if (pt_cmpR op_eq (pv 6) (pv 3) (nomark _))
  (pss_one (ps_set (i := 8) sc__law_wrapped.nd rfl (by first | exact Or.inl rfl | exact Or.inr rfl) (pe_tup (pa_cons (pv 1) (pa_cons (pv 2) pa_nil)))))
  pss_nil)))
  (pss_cons (ps_set (i := 5) sc__law_wrapped.nd rfl (by first | exact Or.inl rfl | exact Or.inr rfl) (pe_op op_catA (pe_tup (pa_cons (pv 9) pa_nil)) (pv 5)))
  (pss_cons (ps_set (i := 1) sc__law_wrapped.nd rfl (by first | exact Or.inl rfl | exact Or.inr rfl) (pe_op op_catA (pv 7) (pe_tup (pa_cons (pv 8) pa_nil))))
  (pss_one (ps_set (i := 6) sc__law_wrapped.nd rfl (by first | exact Or.inl rfl | exact Or.inr rfl) (pe_op op_add (pv 6) pe_int)))))))))
  (pss_one (ps_ret (pe_tup (pa_cons (pv 1) (pa_cons (pv 5) pa_nil)))))))), ?_⟩
    dsimp only [L2.cxOf, L2.Cx.nox]
    have hsz : sizeLine = 16777216 := rfl
    have los : os.length = ops.length := by rw [io.len, List.length_map]
    refine ⟨by show 0 ≤ sizeLine; decide, fun pe npe => ?_⟩
    have q0 : Kp [] H (upd H pe (.tup [])) := Kp.new npe
    have e0 : upd H pe (.tup []) pe = some (.tup []) := upd_same
    generalize upd H pe (.tup []) = H0 at q0 e0 ⊢
    refine ⟨_, rfl, oA, os, rfl, SqL.of (q0.at_ _ _ ho (fun z => nomatch z)), ?_⟩
    refine for_it (walk_rev (xs := os)) (fun i σ H' => ∃ (sI pI : Addr) (stI : Stm) (pp : List Nat) (o7 o8 o9 : Option V), σ = [some (.ref oA), some (.ref sI), some vb, some (.int k), some (.int (if sd then 1 else 0)), some (.ref pI), some (.int (i : Nat)), o7, o8, o9] ∧ Kp [] H H' ∧ Sm_ H' (.ref sI) stI ∧ H' pI = some (.tup (pp.map fun i => V.int (i : Nat))) ∧ pp.length = i ∧ wr y k sd 0 st [] ops.reverse = wr y k sd i stI pp (ops.reverse.drop i)) ⟨sa, pe, st, [], none, none, none, rfl, q0, sm.kp q0, e0, rfl, rfl⟩ (fun i σ H' _ h => ?_) ?_ ?_
    · obtain ⟨_, _, _, _, _, _, _, _, k', _⟩ := h
      exact SqL.of (k'.at_ _ _ ho (fun z => nomatch z))
    · rintro i u0 σ H1' H2' hi ⟨sI, pI, stI, pp, o7, o8, o9, rfl, k1, smI, hpI, lpp, ew⟩ ⟨rfl, hu1⟩
      have hi : i < os.length := hi
      obtain ⟨e', he, iu⟩ := (ImAll.kp k1 io).getV hu1
      rw [List.getElem?_map, los] at he
      obtain ⟨o, hoo, rfl⟩ := Option.map_eq_some_iff.mp he
      obtain ⟨pa, _, ys, rfl, e3, hpa, ay⟩ := Dt.tupI iu
      cases e3
      have ly : ys.length ≤ 5 := by rw [ay.len]; cases o <;> simp [Og.dat]
      have er : ops.reverse.drop i = o :: ops.reverse.drop (i + 1) := by
        have : ops.reverse[i]? = some o := by rw [List.getElem?_reverse (by omega)]; exact hoo
        obtain ⟨h1, h2⟩ := List.getElem?_eq_some_iff.mp this
        rw [List.drop_eq_getElem_cons h1, h2]
      rw [er] at ew
      refine ⟨_, rfl, by show 1 ≤ sizeLine; decide, fun p1 np1 => ?_⟩
      have q2 : Kp [] H2' (upd H2' p1 (.tup [.ref sI])) := Kp.new np1
      have e2 : upd H2' p1 (.tup [.ref sI]) p1 = some (.tup [.ref sI]) := upd_same
      generalize upd H2' p1 (.tup [.ref sI]) = H3 at q2 e2 ⊢
      have smI3 := smI.kp q2
      have sy3 := (sy.kp k1).kp q2
      refine ⟨fun σ H' => ∃ (b2 : Addr) (ws : List V) (bd : List Stm) (ix : Nat), σ = [some (.ref oA), some (.ref sI), some vb, some (.int k), some (.int (if sd then 1 else 0)), some (.ref pI), some (.int (i : Nat)), some (.ref pa), some (.ref b2), some (.int (ix : Nat))] ∧ Kp [] H3 H' ∧ H' b2 = some (.tup ws) ∧ ws.length ≤ 2 ∧ A2 (Sm_ H') ws bd ∧ wr y k sd i stI pp (o :: ops.reverse.drop (i + 1)) = wr y k sd (i + 1) (o.st bd) (ix :: pp) (ops.reverse.drop (i + 1)), ?_, ?_⟩
      · refine ⟨_, rfl, _, rfl, rfl, _, rfl, ?_⟩
        by_cases hk : (i : Int) = k
        · refine iteTs (decide_eq_true (by rw [hk])) ?_
          cases sd with
          | true =>
            refine ⟨_, rfl, rfl, _, rfl, iteTs (decide_eq_true rfl) ?_⟩
            refine ⟨_, rfl, _, rfl, by show 2 ≤ sizeLine; decide, fun p2 np2 => ?_⟩
            have q3 : Kp [] H3 (upd H3 p2 (.tup [vb, .ref sI])) := Kp.new np2
            exact ⟨p2, _, [y, stI], 1, rfl, q3, upd_same, by simp, .cons (sy3.kp q3) (.cons (smI3.kp q3) .nil), by rw [wr, if_pos hk]; rfl⟩
          | false =>
            refine ⟨_, rfl, rfl, _, rfl, iteFs (decide_eq_false fun z => by cases z) ?_⟩
            refine ⟨_, rfl, _, rfl, rfl, _, rfl, iteTs (decide_eq_true (by rw [hk])) ?_⟩
            refine ⟨_, rfl, _, rfl, by show 2 ≤ sizeLine; decide, fun p2 np2 => ?_⟩
            have q3 : Kp [] H3 (upd H3 p2 (.tup [.ref sI, vb])) := Kp.new np2
            exact ⟨p2, _, [stI, y], 0, rfl, q3, upd_same, by simp, .cons (smI3.kp q3) (.cons (sy3.kp q3) .nil), by rw [wr, if_pos hk]; rfl⟩
        · have hv : decide (V.int (i : Nat) = V.int k) = false := decide_eq_false fun z => hk (V.int.inj z)
          refine iteFs hv (iteF ⟨_, rfl, _, rfl, rfl, _, rfl, iteFs hv ?_⟩)
          exact ⟨p1, _, [stI], 0, rfl, Kp.refl _, e2, by simp, .cons smI3 .nil, by rw [wr, if_neg hk]⟩
      · rintro σ H4 ⟨b2, ws, bd, ix, rfl, k4, hb2, lws, abd, ew2⟩
        refine ⟨_, rfl, by show 1 ≤ sizeLine; decide, fun p2 np2 => ⟨_, rfl, ?_⟩⟩
        have q3 : Kp [] H4 (upd H4 p2 (.tup [.int (ix : Nat)])) := Kp.new np2
        have e3 : upd H4 p2 (.tup [.int (ix : Nat)]) p2 = some (.tup [.int (ix : Nat)]) := upd_same
        generalize upd H4 p2 (.tup [.int (ix : Nat)]) = H5 at q3 e3 ⊢
        have q25 := (q2.trans k4).trans q3
        refine catA_in e3 (q25.tp _ _ hpI) (by rw [List.length_map]; show 1 + _ ≤ _; omega) fun p3 H6 q6 hp3 => ?_
        refine ⟨_, rfl, _, rfl, by show 1 ≤ sizeLine; decide, fun p4 np4 => ?_⟩
        have q7 : Kp [] H6 (upd H6 p4 (.tup [.ref b2])) := Kp.new np4
        have e4 : upd H6 p4 (.tup [.ref b2]) p4 = some (.tup [.ref b2]) := upd_same
        generalize upd H6 p4 (.tup [.ref b2]) = H7 at q7 e4 ⊢
        have q27 := (q25.trans q6).trans q7
        refine catA_in (q27.tp _ _ hpa) e4 (by show _ + 1 ≤ _; omega) fun p5 H8 q8 hp5 => ?_
        have q28 := q27.trans q8
        have q48 := ((q3.trans q6).trans q7).trans q8
        refine ⟨_, rfl, _, _, rfl, rfl, ⟨p5, p3, o.st bd, ix :: pp, _, _, _, rfl, k1.trans q28, sm_of hp5 (ImAll.kp q28 ay) (bd_of (q48.tp _ _ hb2) (abd.imp fun _ _ h => h.kp q48) (by omega)), (q7.trans q8).tp _ _ hp3, by rw [List.length_cons, lpp], ew.trans ew2⟩⟩
    · rintro σ H1 ⟨sI, pI, stI, pp, o7, o8, o9, rfl, k1, smI, hpI, lpp, ew⟩
      rw [List.drop_of_length_le (by rw [List.length_reverse]; omega)] at ew
      refine ⟨_, rfl, _, rfl, by show 2 ≤ sizeLine; decide, fun a na => ?_⟩
      have q2 : Kp [] H1 (upd H1 a (.tup [.ref sI, .ref pI])) := Kp.new na
      refine kq a sI pI _ (k1.trans q2) upd_same ?_ ?_
      · rw [ew]; exact smI.kp q2
      · rw [ew]; exact q2.tp _ _ hpI
end
end Fm

namespace Fm
open PySem PySem.Spec PyProof.Rows L2
/-! ### plain: right statements as data that can be compared -/
theorem ckl_ind {E : CEnv} {top : Nat} {Pr : Nat → Nat → Ar → Cs → Stm → Cs → Prop} {Pl : Nat → Nat → Ar → Cs → List Stm → Cs → Prop} (nil : ∀ n k ar cs, Pl n k ar cs [] cs) (cons : ∀ n k ar cs cs1 cs2 s ss, Pr n k ar cs s cs1 → Pl n k ar cs1 ss cs2 → Pl n k ar cs (s :: ss) cs2) {n : Nat} (ih : ∀ k ar cs cs' s, Ck E top n k ar cs s cs' → Pr n k ar cs s cs') : ∀ {ss : List Stm} {k : Nat} {ar : Ar} {cs cs' : Cs}, CkL E top n k ar cs ss cs' → Pl n k ar cs ss cs'
  | [], _, _, _, _, h => by cases h; exact nil _ _ _ _
  | s :: ss, _, _, _, _, h => by
    cases h with
    | cons a b => exact cons _ _ _ _ _ _ _ _ (ih _ _ _ _ _ a) (ckl_ind nil cons ih b)
def ArNm (ar : Ar) : Prop := ∀ x ∈ ar, IsNm x.1 ∧ ∀ f ∈ x.2.2.1 ++ x.2.2.2, IsNm f
structure EG (E : CEnv) : Prop where
  t : ∀ t fs, lkA E.tabs t = some fs → IsNm t ∧ ∀ f ∈ fs, IsNm f
  b : ∀ b ks ss, lkA E.blks b = some (ks, ss) → IsNm b ∧ ∀ f ∈ ks ++ ss, IsNm f
theorem EG.of {tbs : List (Str × List Str)} {bs : List Blk} (g : GoodTs tbs) (gb : ∀ x ∈ bs, BlkG x) : EG ⟨tbs, bs⟩ :=
  ⟨fun t fs h => let gt := g.1 _ (lkA_mem h); ⟨gt.1, gt.2.1⟩, fun b ks ss h => let gg := gb _ (lkA_mem h); ⟨gg.nm, gg.nms⟩⟩
theorem ArNm.snoc {ar : Ar} {v : Str} {e : Ent} (h : ArNm ar) (nv : IsNm v) (he : ∀ f ∈ e.2.1 ++ e.2.2, IsNm f) : ArNm (ar ++ [(v, e)]) := fun x hx => by
  rcases List.mem_append.mp hx with hx | hx
  · exact h x hx
  · rw [List.mem_singleton.mp hx]; exact ⟨nv, he⟩
theorem rd_nm {ar : Ar} (h : ArNm ar) {st : Bool} {p : Fac} (ok : rdOk ar st p = true) : IsNm p.1 ∧ IsNm p.2 := by
  unfold rdOk at ok
  cases hl : lkA ar p.1 with
  | none => rw [hl] at ok; cases ok
  | some e =>
    obtain ⟨b, fs, ss⟩ := e
    rw [hl] at ok
    obtain ⟨h1, h2⟩ := h _ (lkA_mem hl)
    refine ⟨h1, h2 _ ?_⟩
    simp only [Bool.or_eq_true, Bool.and_eq_true, decide_eq_true_eq] at ok
    rcases ok with ok | ok
    · exact List.mem_append_left _ ok
    · exact List.mem_append_right _ ok.2
theorem lay_rd {p : Fac} (h : IsNm p.1 ∧ IsNm p.2) : (dRd p).canLay0 = true ∧ (dRd p).depth ≤ 1 := by
  have e : PyData.strOk "of" = true := by decide +kernel
  refine ⟨?_, ?_⟩
  · unfold dRd
    simp only [PyData.canLay0, PyData.canLayAll0, strOk_nm h.1, strOk_nm h.2, e, Bool.and_self]
  · unfold dRd
    simp only [PyData.depth, PyData.depthAll]
    omega
theorem lay_tm {ar : Ar} (h : ArNm ar) {t : Tm} (ok : TmOk ar t) : (dTm t).canLay0 = true ∧ (dTm t).depth ≤ 1 := by
  cases t with
  | val i => exact ⟨by unfold dTm; simp only [PyData.canLay0], by unfold dTm; simp only [PyData.depth]; omega⟩
  | of v f => exact lay_rd (rd_nm h ok)
theorem lay_allM {α : Type} {f : α → PyData} {k : Nat} : ∀ {l : List α}, (∀ x ∈ l, (f x).canLay0 = true ∧ (f x).depth ≤ k) → PyData.canLayAll0 (l.map f) = true ∧ PyData.depthAll (l.map f) ≤ k
  | [], _ => ⟨rfl, by simp [PyData.depthAll]⟩
  | x :: l, h => by
    obtain ⟨a1, a2⟩ := h x List.mem_cons_self
    obtain ⟨b1, b2⟩ := lay_allM (l := l) fun y hy => h y (List.mem_cons_of_mem _ hy)
    refine ⟨by rw [List.map_cons, PyData.canLayAll0, a1, b1]; rfl, ?_⟩
    rw [List.map_cons]
    simp only [PyData.depthAll]
    omega
theorem lay_prd {ar : Ar} (h : ArNm ar) {p : Prd} (ok : PrOk ar p) : (dPrd p).canLay0 = true ∧ (dPrd p).depth ≤ 3 := by
  obtain ⟨a, b⟩ := lay_allM (f := dRd) (k := 1) (l := p.2) fun f hf => lay_rd (rd_nm h (ok.2.2.2.2.1 f hf))
  unfold dPrd
  refine ⟨by simp only [PyData.canLay0, PyData.canLayAll0, a, Bool.and_self], ?_⟩
  simp only [PyData.depth, PyData.depthAll]
  omega
theorem lay_adds {ar : Ar} (h : ArNm ar) {adds : List (List Prd)} (ok : ∀ ps ∈ adds, ∀ p ∈ ps, PrOk ar p) : (dAdds adds).canLay0 = true ∧ (dAdds adds).depth ≤ 5 := by
  obtain ⟨a, b⟩ := lay_allM (f := dPrs) (k := 4) (l := adds) fun ps hps => by
    obtain ⟨a, b⟩ := lay_allM (f := dPrd) (k := 3) (l := ps) fun p hp => lay_prd h (ok ps hps p hp)
    unfold dPrs
    refine ⟨by simp only [PyData.canLay0, a], ?_⟩
    simp only [PyData.depth]
    omega
  unfold dAdds
  refine ⟨by simp only [PyData.canLay0, a], ?_⟩
  simp only [PyData.depth]
  omega
theorem strs_ok : PyData.strOk "put" = true ∧ PyData.strOk "same" = true ∧ PyData.strOk "scan" = true ∧ PyData.strOk "run" = true ∧ PyData.strOk "seek" = true ∧ PyData.strOk "each" = true ∧ PyData.strOk "rise" = true ∧ PyData.strOk "look" = true := by decide +kernel
theorem ck_lay {E : CEnv} (eg : EG E) {top : Nat} : ∀ {n k : Nat} {ar : Ar} {cs cs' : Cs} {s : Stm}, Ck E top n k ar cs s cs' → ArNm ar → (dSt s).canLay0 = true ∧ (dSt s).depth ≤ 6 + 2 * n ∧ dpS s ≤ n := by
  obtain ⟨z1, z2, z3, z4, z5, z6, z7, z8⟩ := strs_ok
  have hput : ∀ {n : Nat} {ar : Ar} {cs : Cs} {b : Str} {ts : List Tm} {adds : List (List Prd)}, PutOk E cs top ar b ts adds → ArNm ar → (dSt (.put b ts adds)).canLay0 = true ∧ (dSt (.put b ts adds)).depth ≤ 6 + 2 * n ∧ dpS (.put b ts adds) ≤ n := fun {n ar cs b ts adds} ⟨ks, ss, h1, _, _, h3, _, h5, _⟩ h => by
    obtain ⟨a, b'⟩ := lay_allM (f := dTm) (k := 1) (l := ts) fun t ht => lay_tm h (h3 t ht)
    obtain ⟨c, d⟩ := lay_adds h (adds := adds) fun ps hps => (h5 ps hps).2
    refine ⟨?_, ?_, by rw [dpS]; exact Nat.zero_le _⟩
    · rw [dSt]
      simp only [PyData.canLay0, PyData.canLayAll0, a, c, z1, strOk_nm (eg.b _ _ _ h1).1, Bool.and_self]
    · rw [dSt]
      simp only [PyData.depth, PyData.depthAll]
      omega
  intro n
  induction n with
  | zero =>
    intro k ar cs cs' s h ha
    cases h with
    | put _ _ o => exact hput o ha
  | succ n ih =>
    have ihl : ∀ {ss : List Stm} {k : Nat} {ar : Ar} {cs cs' : Cs}, CkL E top n k ar cs ss cs' → ArNm ar → PyData.canLayAll0 (dSts ss) = true ∧ PyData.depthAll (dSts ss) ≤ 6 + 2 * n ∧ dpB ss ≤ n := fun h => ckl_ind (Pr := fun _ _ ar _ s _ => ArNm ar → (dSt s).canLay0 = true ∧ (dSt s).depth ≤ 6 + 2 * n ∧ dpS s ≤ n) (Pl := fun _ _ ar _ ss _ => ArNm ar → PyData.canLayAll0 (dSts ss) = true ∧ PyData.depthAll (dSts ss) ≤ 6 + 2 * n ∧ dpB ss ≤ n) (fun _ _ _ _ _ => by rw [dSts, dpB]; exact ⟨rfl, by simp [PyData.depthAll], Nat.zero_le _⟩) (fun _ _ _ _ _ _ _ _ a b h => by
      obtain ⟨a1, a2, a3⟩ := a h
      obtain ⟨b1, b2, b3⟩ := b h
      rw [dSts, dpB]
      refine ⟨by rw [PyData.canLayAll0, a1, b1]; rfl, ?_, by omega⟩
      simp only [PyData.depthAll]
      omega) (fun _ _ _ _ _ h => ih h) h
    intro k ar cs cs' s h ha
    have fin : ∀ {s : Stm} {hd : List PyData} {body : List Stm}, dSt s = .tuple (hd ++ [.tuple (dSts body)]) → PyData.canLayAll0 hd = true → PyData.depthAll hd ≤ 2 → dpS s = dpB body + 1 → (PyData.canLayAll0 (dSts body) = true ∧ PyData.depthAll (dSts body) ≤ 6 + 2 * n ∧ dpB body ≤ n) → (dSt s).canLay0 = true ∧ (dSt s).depth ≤ 6 + 2 * (n + 1) ∧ dpS s ≤ n + 1 := fun {s hd body} e h1 h2 h3 ⟨b1, b2, b3⟩ => by
      have app : ∀ (l : List PyData) (x : PyData), PyData.canLayAll0 l = true → x.canLay0 = true → PyData.canLayAll0 (l ++ [x]) = true := by
        intro l x
        induction l with
        | nil => intro _ hx; rw [List.nil_append, PyData.canLayAll0, hx]; rfl
        | cons y l ih =>
          intro hl hx
          rw [PyData.canLayAll0, Bool.and_eq_true] at hl
          rw [List.cons_append, PyData.canLayAll0, hl.1, ih hl.2 hx]; rfl
      have appd : ∀ (l : List PyData) (x : PyData), PyData.depthAll (l ++ [x]) ≤ max (PyData.depthAll l) x.depth := by
        intro l x
        induction l with
        | nil => rw [List.nil_append]; simp only [PyData.depthAll]; omega
        | cons y l ih => rw [List.cons_append]; simp only [PyData.depthAll]; omega
      have hx : (PyData.tuple (dSts body)).canLay0 = true := by simp only [PyData.canLay0, b1]
      have dx : (PyData.tuple (dSts body)).depth ≤ 7 + 2 * n := by simp only [PyData.depth]; omega
      rw [e]
      refine ⟨by simp only [PyData.canLay0, app _ _ h1 hx], ?_, by omega⟩
      have := appd hd (.tuple (dSts body))
      simp only [PyData.depth] at this dx ⊢
      omega
    have sn : ∀ {v : Str}, IsNm v → PyData.strOk v = true := fun h => strOk_nm h
    cases h with
    | put _ _ o => exact hput o ha
    | @same _ _ _ _ _ a b body _ _ _ h1 h2 g =>
      obtain ⟨a1, a2⟩ := lay_tm ha h1
      obtain ⟨b1, b2⟩ := lay_tm ha h2
      exact fin (hd := [.str "same", dTm a, dTm b]) (by rw [dSt]; rfl) (by simp only [PyData.canLay0, PyData.canLayAll0, z2, a1, b1, Bool.and_self]) (by simp only [PyData.depth, PyData.depthAll]; omega) (by rw [dpS]) (ihl g ha)
    | @scan _ _ _ _ _ v t fs body _ _ _ hv _ ht g =>
      obtain ⟨t1, t2⟩ := eg.t _ _ ht
      exact fin (hd := [.str "scan", .str v, .str t]) (by rw [dSt]; rfl) (by simp only [PyData.canLay0, PyData.canLayAll0, z3, sn hv, sn t1, Bool.and_self]) (by simp only [PyData.depth, PyData.depthAll]; omega) (by rw [dpS]) (ihl g (ha.snoc hv (by simpa using t2)))
    | @run _ _ _ _ _ v t f fs body _ _ _ hv _ ht hf g =>
      obtain ⟨t1, t2⟩ := eg.t _ _ ht
      exact fin (hd := [.str "run", .str v, .str t, .str f]) (by rw [dSt]; rfl) (by simp only [PyData.canLay0, PyData.canLayAll0, z4, sn hv, sn t1, sn (t2 f hf), Bool.and_self]) (by simp only [PyData.depth, PyData.depthAll]; omega) (by rw [dpS]) (ihl g (ha.snoc hv (by simpa using t2)))
    | @seek _ _ _ _ _ v t f a fs body _ _ _ hv _ ht hf h1 g =>
      obtain ⟨t1, t2⟩ := eg.t _ _ ht
      obtain ⟨a1, a2⟩ := lay_tm ha h1
      exact fin (hd := [.str "seek", .str v, .str t, .str f, dTm a]) (by rw [dSt]; rfl) (by simp only [PyData.canLay0, PyData.canLayAll0, z5, sn hv, sn t1, sn (t2 f hf), a1, Bool.and_self]) (by simp only [PyData.depth, PyData.depthAll]; omega) (by rw [dpS]) (ihl g (ha.snoc hv (by simpa using t2)))
    | @each _ _ _ _ _ v b ks ss body _ _ _ hv _ ht g =>
      obtain ⟨t1, t2⟩ := eg.b _ _ _ ht.1
      exact fin (hd := [.str "each", .str v, .str b]) (by rw [dSt]; rfl) (by simp only [PyData.canLay0, PyData.canLayAll0, z6, sn hv, sn t1, Bool.and_self]) (by simp only [PyData.depth, PyData.depthAll]; omega) (by rw [dpS]) (ihl g (ha.snoc hv t2))
    | @rise _ _ _ _ _ v b f ks ss body _ _ _ hv _ ht hf g =>
      obtain ⟨t1, t2⟩ := eg.b _ _ _ ht.1
      exact fin (hd := [.str "rise", .str v, .str b, .str f]) (by rw [dSt]; rfl) (by simp only [PyData.canLay0, PyData.canLayAll0, z7, sn hv, sn t1, sn (t2 f (List.mem_append_left _ hf)), Bool.and_self]) (by simp only [PyData.depth, PyData.depthAll]; omega) (by rw [dpS]) (ihl g (ha.snoc hv t2))
    | @look _ _ _ _ _ v b ts ks ss body _ _ _ hv _ ht _ h2 g =>
      obtain ⟨t1, t2⟩ := eg.b _ _ _ ht.1
      obtain ⟨a1, a2⟩ := lay_allM (f := dTm) (k := 1) (l := ts) fun t h => lay_tm ha (h2 t h)
      exact fin (hd := [.str "look", .str v, .str b, .tuple (ts.map dTm)]) (by rw [dSt]; rfl) (by simp only [PyData.canLay0, PyData.canLayAll0, z8, sn hv, sn t1, a1, Bool.and_self]) (by simp only [PyData.depth, PyData.depthAll]; omega) (by rw [dpS]) (ihl g (ha.snoc hv t2))
theorem ckt_lay {E : CEnv} (eg : EG E) {n : Nat} : ∀ {ss : List Stm} {i : Nat} {cs cs' : Cs}, CkT E n i cs ss cs' → PyData.canLayAll0 (dSts ss) = true ∧ PyData.depthAll (dSts ss) ≤ 6 + 2 * n ∧ dpB ss ≤ n
  | [], _, _, _, _ => by rw [dSts, dpB]; exact ⟨rfl, by simp [PyData.depthAll], Nat.zero_le _⟩
  | s :: ss, _, _, _, h => by
    cases h with
    | cons a b =>
      obtain ⟨a1, a2, a3⟩ := ck_lay eg a (fun x hx => nomatch hx)
      obtain ⟨b1, b2, b3⟩ := ckt_lay eg b
      rw [dSts, dpB]
      refine ⟨by rw [PyData.canLayAll0, a1, b1]; rfl, ?_, by omega⟩
      simp only [PyData.depthAll]
      omega
end Fm

namespace Fm
open PySem PySem.Spec PyProof.Rows L2
/-! ### plain: what can be compared -/
theorem sh_tup {ds : List PyData} {k : Nat} (h : PyData.canLayAll0 ds = true) (d : PyData.depthAll ds ≤ k) (hk : k ≤ 60) : (PyData.tuple ds).canLay0 = true ∧ SeqAt.shaped (.tuple ds) = true := by
  have l : (PyData.tuple ds).canLay0 = true := by simp only [PyData.canLay0, h]
  exact ⟨l, Bool.and_eq_true_iff.mpr ⟨l, decide_eq_true (by simp only [PyData.depth]; omega)⟩⟩
theorem lay_strsI {ws : List Str} (h : ∀ w ∈ ws, IsNm w) : (PyData.tuple (ws.map .str)).canLay0 = true ∧ (PyData.tuple (ws.map .str)).depth ≤ 1 := by
  obtain ⟨a, b⟩ := lay_allM (f := PyData.str) (k := 0) (l := ws) fun w hw => ⟨by simp only [PyData.canLay0, strOk_nm (h w hw)], by simp only [PyData.depth]; omega⟩
  exact ⟨by simp only [PyData.canLay0, a], by simp only [PyData.depth]; omega⟩
theorem lay_tabsI {tbs : List (Str × List Str)} (g : GoodTs tbs) : PyData.canLayAll0 (tbs.map dTab) = true ∧ PyData.depthAll (tbs.map dTab) ≤ 2 := lay_allM fun t ht => by
  have gt := g.1 t ht
  obtain ⟨a, b⟩ := lay_strsI gt.2.1
  unfold dTab
  exact ⟨by simp only [PyData.canLay0, PyData.canLayAll0, strOk_nm gt.1] at a ⊢; simp only [a, Bool.and_self], by simp only [PyData.depth, PyData.depthAll] at b ⊢; omega⟩
theorem lay_blksI {bs : List Blk} (g : ∀ x ∈ bs, BlkG x) : PyData.canLayAll0 (bs.map dBlk) = true ∧ PyData.depthAll (bs.map dBlk) ≤ 2 := lay_allM fun x hx => by
  have gx := g x hx
  obtain ⟨a, b⟩ := lay_strsI (ws := x.2.1) fun w hw => gx.nms w (List.mem_append_left _ hw)
  obtain ⟨c, d⟩ := lay_strsI (ws := x.2.2) fun w hw => gx.nms w (List.mem_append_right _ hw)
  unfold dBlk
  exact ⟨by simp only [PyData.canLay0, PyData.canLayAll0, strOk_nm gx.nm] at a c ⊢; simp only [a, c, Bool.and_self], by simp only [PyData.depth, PyData.depthAll] at b d ⊢; omega⟩
end Fm

namespace Fm
open PySem PySem.Spec PyProof.Rows L2
/-! ### _law_after, _law_is_program, _law_leads: any move -/
def spAfterLG (CP CS : Addr) (Pre : Hp → Addr → List Stm → Option (List Stm) → Prop) : Sp := fun vs H Q _ => ∃ (pp mv ps : Addr) (tbs : List (Str × List Str)) (bs : List Blk) (bd : List Stm) (r : Option (List Stm)), vs = [.ref pp, .ref mv] ∧ PrAt CP CS H pp ps 8 tbs bs bd ∧ GoodTs tbs ∧ Pre H mv bd r ∧
  (r = none → ∀ (a : Addr) H', Kp [] H H' → H' a = some (.tup [.str "refused", .ref mv]) → Q (.ref a) H') ∧ (∀ bd', r = some bd' → ProgOk 8 tbs bs bd' ∧ ∀ (a p : Addr) H', Kp [] H H' → H' a = some (.tup [.str "told", .ref p]) → PrAt CP CS H' p ps 8 tbs bs bd' → Q (.ref a) H')
def spIsProg (CP CS : Addr) (n : Nat) : Sp := fun vs H Q _ => ∃ (pp ta ba ya ps : Addr) (xs ys bo : List V) (tbs : List (Str × List Str)) (bs : List Blk) (body : List Stm), vs = [.ref pp, .ref ta, .ref ba, .ref ya] ∧ PrAt CP CS H pp ps n tbs bs body ∧ H ta = some (.lst xs) ∧ ImAll H 2 xs (tbs.map dTab) ∧ H ba = some (.lst ys) ∧ ImAll H 2 ys (bs.map dBlk) ∧ H ya = some (.lst bo) ∧ A2 (Sm_ H) bo body ∧ GoodTs tbs ∧ ProgOk n tbs bs body ∧ n ≤ 20 ∧
  ∀ H', Kp [] H H' → Q (.bl true) H'
theorem PrAt.kpN {CP CS : Addr} {H H' : Hp} {p ps : Addr} {n : Nat} {tbs : List (Str × List Str)} {bs : List Blk} {body : List Stm} (h : PrAt CP CS H p ps n tbs bs body) (k : Kp [] H H') : PrAt CP CS H' p ps n tbs bs body := by
  obtain ⟨dx, vb, vy, hpp, SA, ib, iy⟩ := h
  exact ⟨dx, vb, vy, k.at_ _ _ hpp (fun z => nomatch z), SA.kp k (fun z => nomatch z), Im.kp k ib, Im.kp k iy⟩
theorem lay_move (p : List Nat) : SeqAt.shaped (.tuple [.str "turn", .tuple (p.map fun i => PyData.int (i : Nat))]) = true ∧ (PyData.tuple [.str "turn", .tuple (p.map fun i => PyData.int (i : Nat))]).canLay0 = true := by
  obtain ⟨a, b⟩ := lay_allM (f := fun i : Nat => PyData.int (i : Nat)) (k := 0) (l := p) fun i _ => ⟨by simp only [PyData.canLay0], by simp only [PyData.depth]; omega⟩
  have e : PyData.strOk "turn" = true := by decide +kernel
  obtain ⟨h1, h2⟩ := sh_tup (ds := [.str "turn", .tuple (p.map fun i => PyData.int (i : Nat))]) (k := 1) (by simp only [PyData.canLayAll0, PyData.canLay0, a, e, Bool.and_self]) (by simp only [PyData.depthAll, PyData.depth]; omega) (by decide)
  exact ⟨h2, h1⟩
theorem im_move {H : Hp} {mv pa : Addr} {p : List Nat} (hm : H mv = some (.tup [.str "turn", .ref pa])) (hp : H pa = some (.tup (p.map fun i => V.int (i : Nat)))) (l : p.length ≤ 1000) : Im H 2 (.ref mv) (.tuple [.str "turn", .tuple (p.map fun i => PyData.int (i : Nat))]) := by
  have aux : ∀ p : List Nat, ImAll H 0 (p.map fun i => V.int (i : Nat)) (p.map fun i => PyData.int (i : Nat)) := fun p => by
    induction p with
    | nil => exact .nil
    | cons x xs ih => exact .cons (.int _) ih
  exact .tup hm ⟨by simp, ⟨_, hm⟩⟩ (.cons (.str _ (by decide)) (.cons (.tup hp ⟨by rw [List.length_map]; omega, ⟨_, hp⟩⟩ (aux p)) .nil))
theorem preT_ok : MvOk PreT := by
  refine ⟨fun {H H' mv bd r} ⟨pa, ob, ib, q, o, oi, h1, h2, h⟩ k => ⟨pa, ob, ib, q, o, oi, k.tp _ _ h1, k.tp _ _ h2, h⟩, fun {H mv bd r} ⟨pa, ob, ib, q, o, oi, h1, h2, _, l, _⟩ => ?_⟩
  obtain ⟨s1, s2⟩ := lay_move q
  exact ⟨2, _, im_move h1 h2 (by omega), s1, s2⟩
def spLeadsG (CP CS : Addr) (Pre : Hp → Addr → List Stm → Option (List Stm) → Prop) : Sp := fun vs H Q _ => ∃ (pp ta ba ya mv ps : Addr) (vd : V) (xs ys bo : List V) (tbs : List (Str × List Str)) (bs : List Blk) (bd : List Stm) (r : Option (List Stm)), vs = [.ref pp, .ref ta, .ref ba, .ref ya, .ref mv, .ref ba, vd] ∧ PrAt CP CS H pp ps 8 tbs bs bd ∧ H ta = some (.lst xs) ∧ ImAll H 2 xs (tbs.map dTab) ∧ H ba = some (.lst ys) ∧ ImAll H 2 ys (bs.map dBlk) ∧ H ya = some (.lst bo) ∧ A2 (Sm_ H) bo bd ∧ GoodTs tbs ∧ ProgOk 8 tbs bs bd ∧ Pre H mv bd r ∧
  ((vd = .non ∧ r = none) ∨ ∃ (du : Addr) (duo : List V) (bd' : List Stm), vd = .ref du ∧ r = some bd' ∧ H du = some (.lst duo) ∧ A2 (Sm_ H) duo bd' ∧ ProgOk 8 tbs bs bd') ∧
  ∀ H', Kp [] H H' → Q (.bl true) H'
section
variable {P : Program} {w : World} {K : PySem.W.Frag} {mg : Str → Option Value} {base : Heap}
theorem ok_lawafterG {CP CS CM : Addr} {Pre : Hp → Addr → List Stm → Option (List Stm) → Prop} (B : Bi mg) (D : Dfn K mg "_law_after" s__law_after ["_law_program", "_law_move"]) (G_moved : Has P w K mg base (L2.CX P w) "moved" ["program", "move"] 18 (spMovedG CP CS CM Pre)) (gM : mg "BadMove" = some (.ref CM)) (eMM : PySem.W.exmOne K (.ref CM) (.ref CM) = some true) (fM : XfC K CM) (nM : PySem.W.findIn K (.ref CM) "value" = some none) : Has P w K mg base CX0 "_law_after" ["_law_program", "_law_move"] 19 (spAfterLG CP CS Pre) := by
  obtain ⟨fW, fdW, FW, gW, kW, bW⟩ := G_moved
  refine D.has sc__law_after (fun vs H Q E h => ?_) (fun f cdv A outer s H vs Q E hr h => ?_)
  · obtain ⟨pp, mv, ps, tbs, bs, bd, r, rfl, _⟩ := h; rfl
  · obtain ⟨pp, mv, ps, tbs, bs, bd, rr, rfl, PA, g, hpre, kN, kY⟩ := h
    refine ⟨_, (pss_cons (ps_try_as (i := 3) (Wout := fun _ _ _ _ => False) rfl rfl sc__law_after.nd rfl rfl ⟨rfl, by decide, .inl gM⟩ takes0 (fun W pn xe tk _ => (pss_one (ps_set (i := 2) sc__law_after.nd rfl (by first | exact Or.inl rfl | exact Or.inr rfl) (pe_callS FW hr rfl gW kW bW (fun σ => passAt tk σ) (pa_cons (pv 0) (pa_cons (pv 1) pa_nil))))))
  (fun a oe cls d pn hz hf => (pss_one (ps_ret (pe_tup (pa_cons pe_str (pa_cons (pe_xf fM nM hz hf (pv 3)) pa_nil)))))))
  (pss_one (ps_ret (pe_tup (pa_cons pe_str (pa_cons (pv 2) pa_nil)))))), ?_⟩
    have hsz : sizeLine = 16777216 := rfl
    refine ⟨_, rfl, _, rfl, pp, mv, ps, tbs, bs, bd, rr, rfl, PA, g, hpre, fun hn dd H1 k1 e1 => ?_, fun bd' hbd' => ?_⟩
    · refine ⟨true, eMM, fun _ a ha => ?_, fun z => nomatch z⟩
      refine ⟨_, rfl, rfl, rfl, dd, _, .ref mv, rfl, e1, rfl, ?_⟩
      refine ⟨by show 2 ≤ sizeLine; decide, fun r hr' => ?_⟩
      exact kN hn r _ (k1.snoc hr') upd_same
    · obtain ⟨hok, kY'⟩ := kY bd' hbd'
      refine ⟨hok, fun p H1 k1 PA1 => ⟨_, rfl, by show 2 ≤ sizeLine; decide, fun r hr' => ?_⟩⟩
      have q := Kp.new (ms := []) (o := .tup [.str "told", .ref p]) hr'
      exact kY' r p _ (k1.trans q) upd_same (PA1.kpN q)
theorem ok_is_program {CP CS : Addr} {n : Nat} (B : Bi mg) (D : Dfn K mg "_law_is_program" s__law_is_program ["_law_thing", "_law_tables_here", "_law_blocks_here", "_law_body"]) (mgP : mg "Program" = some (.ref CP)) (mgS : mg "Shape" = some (.ref CS)) (XP : InsX K CP) (XS : InsX K CS) (T : ShCls K mg CS) (clP : Cls K CP) (np : NoAttr K CP "shape") (nb : NoAttr K CP "blocks") (ny : NoAttr K CP "body") : Has P w K mg base CX0 "_law_is_program" ["_law_thing", "_law_tables_here", "_law_blocks_here", "_law_body"] 1 (spIsProg CP CS n) := by
  refine D.has sc__law_is_program (fun vs H Q E h => ?_) (fun f cdv A outer s H vs Q E hr h => ?_)
  · obtain ⟨pp, ta, ba, ya, ps, xs, ys, bo, tbs, bs, body, rfl, _⟩ := h; rfl
  · obtain ⟨pp, ta, ba, ya, ps, xs, ys, bo, tbs, bs, body, rfl, PA, hta, ixs, hba, iys, hya, ibo, g, po, n20, k⟩ := h
    have hu := hu_of hr
    refine ⟨_, (pss_cons (ps_if (pt_not (pt_val (pe_callB call_isi (by rfl) B.isinstance (by decide +kernel) (pa_cons (pv 0) (pa_cons (pe_glob (v := .ref CP) rfl mgP rfl) pa_nil)))))
  (pss_one (ps_ret pe_bl))
  pss_nil)
  (pss_cons (ps_if (PW.pt (pw_or (pt_not (pt_val (pe_callB call_isi (by rfl) B.isinstance (by decide +kernel) (pa_cons (pe_fld (pv 0) rfl) (pa_cons (pe_glob (v := .ref CS) rfl mgS rfl) pa_nil))))) (pw_or1 (pt_cmpR (op_neD hr.units) (pe_fld (pe_fld (pv 0) rfl) rfl) (pe_callTy (r := rTupO K) call_tuple_of (by rfl) B.tuple (by decide +kernel) (pa_cons (pv 1) pa_nil)) (nomark _)))))
  (pss_one (ps_ret pe_bl))
  pss_nil)
  (pss_one (ps_ret (pe_and (pe_cmpR (op_eqD hr.units) (pe_fld (pv 0) rfl) (pe_callTy (r := rTupO K) call_tuple_of (by rfl) B.tuple (by decide +kernel) (pa_cons (pv 2) pa_nil)) (nomark _)) (pe_one (pe_cmpR (op_eqD hr.units) (pe_fld (pv 0) rfl) (pe_callTy (r := rTupO K) call_tuple_of (by rfl) B.tuple (by decide +kernel) (pa_cons (pv 3) pa_nil)) (nomark _)))))))), ?_⟩
    dsimp only [L2.cxOf, L2.Cx.nox]
    have hsz : sizeLine = 16777216 := rfl
    obtain ⟨dxp, vb, vy, hpp, SH, ib, iy⟩ := id PA
    obtain ⟨sx, vt, hps, it⟩ := id SH
    have up : ∀ {G : Hp} {m : Nat} {v : V} {d : PyData}, Im G m v d → Dt (fun _ => True) true G m v d := fun h => h.imp fun _ _ => trivial
    have upA : ∀ {G : Hp} {m : Nat} {v : List V} {d : List PyData}, ImAll G m v d → DtAll (fun _ => True) true G m v d := fun h => h.imp fun _ _ => trivial
    have t5 := g.2.2.2
    have bok := po.1
    obtain ⟨cs, ckt⟩ := po.2.2.2
    obtain ⟨lt1, lt2⟩ := lay_tabsI g
    obtain ⟨lb1, lb2⟩ := lay_blksI bok.2.2.2
    obtain ⟨ly1, ly2, _⟩ := ckt_lay (EG.of g bok.2.2.2) ckt
    obtain ⟨st1, st2⟩ := sh_tup lt1 lt2 (by decide)
    obtain ⟨sb1, sb2⟩ := sh_tup lb1 lb2 (by decide)
    obtain ⟨sy1, sy2⟩ := sh_tup ly1 ly2 (by omega)
    obtain ⟨m, ibo⟩ := sm_all ibo
    have lxs : xs.length = tbs.length := by rw [ixs.len, List.length_map]
    have lys : ys.length = bs.length := by rw [iys.len, List.length_map]
    have lbo : bo.length = body.length := by rw [ibo.len, List.length_map]
    refine ⟨_, rfl, _, _, _, _, _, rfl, .own CP, XP.ty hpp, kit_self, _, rfl, iteF ?_⟩
    refine ⟨_, rfl, pp, CP, dxp, _, _, rfl, hpp, clP, np, rfl, _, _, _, _, _, rfl, .own CS, XS.ty hps, kit_self, _, rfl, iteF ?_⟩
    refine ⟨_, rfl, pp, CP, dxp, _, _, rfl, hpp, clP, np, rfl, ps, CS, sx, _, _, rfl, hps, T.cl, T.nT, rfl, _, rfl, ta, xs, rfl, .inl ⟨SqL.of hta, fun l1 hl1 => ?_⟩⟩
    have q1 := Kp.new (ms := []) (o := .tup xs) hl1
    have e1 : upd H l1 (.tup xs) l1 = some (.tup xs) := upd_same
    generalize upd H l1 (.tup xs) = H1 at q1 e1
    have c1 : Dt (fun _ => True) true H1 3 (.ref l1) (.tuple (tbs.map dTab)) := .tup e1 ⟨by omega, trivial⟩ (upA (ImAll.kp q1 ixs))
    refine ⟨_, _, (up (Im.kp q1 it)).dp st1, c1.dp st1, st2, st2, ?_⟩
    rw [show PyData.eqv (dTabs tbs) (.tuple (tbs.map dTab)) = true from SeqAt.eqv_refl _ (SeqAt.canLay_of_shaped st2)]
    refine ⟨_, rfl, iteFs (by rfl) ?_⟩
    refine ⟨_, rfl, pp, CP, dxp, _, _, rfl, q1.at_ _ _ hpp (fun z => nomatch z), clP, nb, rfl, _, rfl, ba, ys, rfl, .inl ⟨SqL.of (q1.at_ _ _ hba (fun z => nomatch z)), fun l2 hl2 => ?_⟩⟩
    have q2 := Kp.new (ms := []) (o := .tup ys) hl2
    have e2 : upd H1 l2 (.tup ys) l2 = some (.tup ys) := upd_same
    generalize upd H1 l2 (.tup ys) = H2 at q2 e2
    have q12 := q1.trans q2
    have c2 : Dt (fun _ => True) true H2 3 (.ref l2) (.tuple (bs.map dBlk)) := .tup e2 ⟨by have := bok.2.1; omega, trivial⟩ (upA (ImAll.kp q12 iys))
    refine ⟨_, _, (up (Im.kp q12 ib)).dp sb1, c2.dp sb1, sb2, sb2, ?_⟩
    rw [show PyData.eqv (dBlks bs) (.tuple (bs.map dBlk)) = true from SeqAt.eqv_refl _ (SeqAt.canLay_of_shaped sb2)]
    refine ⟨_, rfl, iteT ?_⟩
    refine ⟨_, rfl, pp, CP, dxp, _, _, rfl, q12.at_ _ _ hpp (fun z => nomatch z), clP, ny, rfl, _, rfl, ya, bo, rfl, .inl ⟨SqL.of (q12.at_ _ _ hya (fun z => nomatch z)), fun l3 hl3 => ?_⟩⟩
    have q3 := Kp.new (ms := []) (o := .tup bo) hl3
    have e3 : upd H2 l3 (.tup bo) l3 = some (.tup bo) := upd_same
    generalize upd H2 l3 (.tup bo) = H3 at q3 e3
    have q13 := q12.trans q3
    have c3 : Dt (fun _ => True) true H3 (m + 1) (.ref l3) (.tuple (body.map dSt)) := .tup e3 ⟨by have := po.2.2.1; omega, trivial⟩ (upA (ImAll.kp q13 ibo))
    have iy3 := up (Im.kp q13 iy)
    rw [dSts_map] at sy1 sy2
    refine ⟨_, _, iy3.dp sy1, c3.dp sy1, sy2, sy2, ?_⟩
    rw [SeqAt.eqv_refl _ (SeqAt.canLay_of_shaped sy2)]
    exact k H3 q13
theorem ok_leadsG {CP CS : Addr} {Pre : Hp → Addr → List Stm → Option (List Stm) → Prop} (MO : MvOk Pre) (B : Bi mg) (D : Dfn K mg "_law_leads" s__law_leads ["_law_program", "_law_tables_here", "_law_blocks_here", "_law_body", "_law_move", "_law_due_blocks", "_law_due"]) (G_after : Has P w K mg base CX0 "_law_after" ["_law_program", "_law_move"] 19 (spAfterLG CP CS Pre)) (G_is_program : Has P w K mg base CX0 "_law_is_program" ["_law_thing", "_law_tables_here", "_law_blocks_here", "_law_body"] 1 (spIsProg CP CS 8)) : Has P w K mg base CX0 "_law_leads" ["_law_program", "_law_tables_here", "_law_blocks_here", "_law_body", "_law_move", "_law_due_blocks", "_law_due"] 20 (spLeadsG CP CS Pre) := by
  refine D.has sc__law_leads (fun vs H Q E h => ?_) (fun f cdv A outer s H vs Q E hr h => ?_)
  · obtain ⟨pp, ta, ba, ya, mv, ps, vd, xs, ys, bo, tbs, bs, bd, r, rfl, _⟩ := h; rfl
  · obtain ⟨pp, ta, ba, ya, mv, ps, vd, xs, ys, bo, tbs, bs, bd, rr, rfl, PA, hta, ixs, hba, iys, hya, ibo, g, po, hpre, hd, k⟩ := h
    have hu := hu_of hr
    refine ⟨_, (pss_cons (ps_set (i := 7) sc__law_leads.nd rfl (by first | exact Or.inl rfl | exact Or.inr rfl) (pe_has G_after (hr.mono (by omega)) (pa_cons (pv 0) (pa_cons (pv 4) pa_nil))))
  (pss_cons (ps_if (pt_not (pt_val (pe_has G_is_program (hr.mono (by omega)) (pa_cons (pv 0) (pa_cons (pv 1) (pa_cons (pv 2) (pa_cons (pv 3) pa_nil)))))))
  (pss_one (ps_ret pe_bl))
  pss_nil)
  (pss_cons (ps_if (pt_cmpR op_isN (pv 6) pe_non (nomark _))
  (pss_one (ps_ret (pe_and (pe_cmpR op_eq (pe_ix (r := rIxT K) ix_tup (pv 7) pe_int (fun _ _ => rfl)) pe_str (nomark _)) (pe_one (pe_cmpR (op_eqD hr.units) (pe_ix (r := rIxT K) ix_tup (pv 7) pe_int (fun _ _ => rfl)) (pv 4) (nomark _))))))
  pss_nil)
  (pss_one (ps_ret (pe_and (pe_cmpR op_eq (pe_ix (r := rIxT K) ix_tup (pv 7) pe_int (fun _ _ => rfl)) pe_str (nomark _)) (pe_one (pe_has G_is_program (hr.mono (by omega)) (pa_cons (pe_ix (r := rIxT K) ix_tup (pv 7) pe_int (fun _ _ => rfl)) (pa_cons (pv 1) (pa_cons (pv 5) (pa_cons (pv 6) pa_nil)))))))))))), ?_⟩
    dsimp only [L2.cxOf, L2.Cx.nox]
    have hsz : sizeLine = 16777216 := rfl
    refine ⟨_, rfl, _, rfl, pp, mv, ps, tbs, bs, bd, rr, rfl, PA, g, hpre, fun hn r H1 k1 hr1 => ?_, fun bd' hbd' => ?_⟩
    · refine ⟨_, rfl, _, rfl, _, rfl, _, rfl, pp, ta, ba, ya, ps, xs, ys, bo, tbs, bs, bd, rfl, PA.kpN k1, k1.at_ _ _ hta (fun z => nomatch z), ImAll.kp k1 ixs, k1.at_ _ _ hba (fun z => nomatch z), ImAll.kp k1 iys, k1.at_ _ _ hya (fun z => nomatch z), ibo.imp fun _ _ h => h.kp k1, g, po, by decide, fun H2 k2 => ?_⟩
      rcases hd with ⟨rfl, _⟩ | ⟨du, duo, bd', rfl, h2, _⟩
      · have k02 := k1.trans k2
        have hr2 := k2.at_ _ _ hr1 (fun z => nomatch z)
        refine ⟨_, rfl, iteFs (by rfl) ⟨_, rfl, rfl, _, rfl, iteTs (by simp) ?_⟩⟩
        refine ⟨_, rfl, r, _, 0, .str "refused", rfl, rfl, SqT.of hr2, atI_nat (k := 0) rfl, rfl, _, rfl, iteTs (decide_eq_true rfl) ?_⟩
        refine ⟨_, rfl, r, _, 1, .ref mv, rfl, rfl, SqT.of hr2, atI_nat (k := 1) rfl, _, rfl, ?_⟩
        obtain ⟨m, d, im, s1, s2⟩ := MO.data (MO.kp hpre k02)
        have d1 : Dt (fun _ => True) true H2 m (.ref mv) d := im.imp fun _ _ => trivial
        refine ⟨_, _, d1.dp s2, d1.dp s2, s1, s1, ?_⟩
        rw [SeqAt.eqv_refl _ (SeqAt.canLay_of_shaped s1)]
        exact k H2 k02
      · rw [hn] at h2; cases h2
    · rcases hd with ⟨_, h2⟩ | ⟨du, duo, bd2, rfl, h2, hdu, adu, po2⟩
      · rw [hbd'] at h2; cases h2
      rw [hbd'] at h2
      cases h2
      refine ⟨po2, fun r p H1 k1 hr1 PA1 => ?_⟩
      refine ⟨_, rfl, _, rfl, _, rfl, _, rfl, pp, ta, ba, ya, ps, xs, ys, bo, tbs, bs, bd, rfl, PA.kpN k1, k1.at_ _ _ hta (fun z => nomatch z), ImAll.kp k1 ixs, k1.at_ _ _ hba (fun z => nomatch z), ImAll.kp k1 iys, k1.at_ _ _ hya (fun z => nomatch z), ibo.imp fun _ _ h => h.kp k1, g, po, by decide, fun H2 k2 => ?_⟩
      have k02 := k1.trans k2
      have hr2 := k2.at_ _ _ hr1 (fun z => nomatch z)
      refine ⟨_, rfl, iteFs (by rfl) ⟨_, rfl, rfl, _, rfl, iteFs (by simp) ?_⟩⟩
      refine ⟨_, rfl, r, _, 0, .str "told", rfl, rfl, SqT.of hr2, atI_nat (k := 0) rfl, rfl, _, rfl, iteTs (decide_eq_true rfl) ?_⟩
      refine ⟨_, rfl, r, _, 1, .ref p, rfl, rfl, SqT.of hr2, atI_nat (k := 1) rfl, _, rfl, _, rfl, _, rfl, ?_⟩
      exact ⟨p, ta, ba, du, ps, xs, ys, duo, tbs, bs, bd', rfl, PA1.kpN k2, k02.at_ _ _ hta (fun z => nomatch z), ImAll.kp k02 ixs, k02.at_ _ _ hba (fun z => nomatch z), ImAll.kp k02 iys, k02.at_ _ _ hdu (fun z => nomatch z), adu.imp fun _ _ h => h.kp k02, g, po2, by decide, fun H3 k3 => k H3 (k02.trans k3)⟩
end
end Fm

namespace Fm
open PySem PySem.Spec PyProof.Rows L2
/-! ### plain: the law's program, its path, its due -/
theorem wr_ne {y : Stm} {sd : Bool} : ∀ {os : List Og} {d : Nat} {st : Stm} {p : List Nat}, d + os.length ≤ 9 → wr y 9 sd d st p os = wr y (-1) sd d st p os
  | [], _, _, _, _ => rfl
  | o :: os, d, st, p, h => by
    rw [List.length_cons] at h
    unfold wr
    rw [if_neg (by omega), if_neg (by omega)]
    exact wr_ne (by omega)
theorem lkA_up {α : Type} {l m : List (Str × α)} {k : Str} {e : α} (h : lkA l k = some e) : lkA (l ++ m) k = some e := by
  unfold lkA at h ⊢
  rw [List.find?_append]
  cases hf : l.find? (fun p => decide (p.1 = k)) with
  | none => rw [hf] at h; cases h
  | some x => rw [hf] at h; exact h
theorem lkA_down {α : Type} {l : List (Str × α)} {k v : Str} {e : α} (n : v ≠ k) : lkA (l ++ [(v, e)]) k = lkA l k := by
  unfold lkA
  rw [List.find?_append]
  cases hf : l.find? (fun p => decide (p.1 = k)) with
  | none => simp [n]
  | some x => rfl
theorem lkA_swap {α : Type} {l : List (Str × α)} {p q : Str × α} (n : p.1 ≠ q.1) (k : Str) : lkA (l ++ [p] ++ [q]) k = lkA (l ++ [q] ++ [p]) k := by
  unfold lkA
  rw [List.find?_append, List.find?_append, List.find?_append, List.find?_append]
  cases hf : l.find? (fun p => decide (p.1 = k)) with
  | some x => rfl
  | none =>
    by_cases hp : p.1 = k
    · have hq : ¬ q.1 = k := fun z => n (hp.trans z.symm)
      simp [hp, hq]
    · by_cases hq : q.1 = k
      · simp [hp, hq]
      · simp [hp, hq]
theorem tm_up {sc ext : Sc} {t : Tm} (h : TmOk (arS sc) t) : TmOk (arS (sc ++ ext)) t := by
  cases t with
  | val i => exact h
  | of v f =>
    have h : rdOk (arS sc) false (v, f) = true := h
    show rdOk (arS (sc ++ ext)) false (v, f) = true
    unfold rdOk at h ⊢
    rw [arS_app]
    cases hl : lkA (arS sc) v with
    | none => simp only [hl] at h; cases h
    | some e => rw [lkA_up hl]; simp only [hl] at h; exact h
theorem tm_down {sc : Sc} {x : Blk} {t : Tm} (h : TmOk (arS (sc ++ [x])) t) (n : tmIs t x.1 = false) : TmOk (arS sc) t := by
  cases t with
  | val i => exact h
  | of v f =>
    have n : v ≠ x.1 := of_decide_eq_false n
    have h : rdOk (arS (sc ++ [x])) false (v, f) = true := h
    show rdOk (arS sc) false (v, f) = true
    unfold rdOk at h ⊢
    rw [arS_app, show arS [x] = [(x.1, entS x)] from rfl, lkA_down (Ne.symm n)] at h
    exact h
theorem tm_in {sc : Sc} {t : Tm} {u : Str} (h : TmOk (arS sc) t) (n : u ∉ sc.map (·.1)) : tmIs t u = false := by
  cases t with
  | val i => rfl
  | of v f =>
    refine decide_eq_false fun e => n ?_
    subst e
    have h : rdOk (arS sc) false (v, f) = true := h
    unfold rdOk at h
    cases hl : lkA (arS sc) v with
    | none => simp only [hl] at h; cases h
    | some e =>
      have := List.mem_map_of_mem (f := (·.1)) (lkA_mem hl)
      unfold arS at this
      rw [List.map_map] at this
      exact this
theorem rd_swap {sc : Sc} {x z : Blk} (n : x.1 ≠ z.1) (st : Bool) (p : Fac) : rdOk (arS (sc ++ [x] ++ [z])) st p = rdOk (arS (sc ++ [z] ++ [x])) st p := by
  unfold rdOk
  rw [arS_app, arS_app, arS_app, arS_app]
  have := lkA_swap (l := arS sc) (p := (x.1, entS x)) (q := (z.1, entS z)) n p.1
  rw [show arS [x] = [(x.1, entS x)] from rfl, show arS [z] = [(z.1, entS z)] from rfl, this]
theorem put_swap {sc : Sc} {x z bl : Blk} {ts : List Tm} {adds : List (List Prd)} (n : x.1 ≠ z.1) (h : LPutOk (sc ++ [x] ++ [z]) bl ts adds) : LPutOk (sc ++ [z] ++ [x]) bl ts adds := by
  obtain ⟨h1, h2, h3, h4⟩ := h
  refine ⟨h1, fun t ht => ?_, h3, fun ps hps => ⟨(h4 ps hps).1, fun p hp => ?_⟩⟩
  · have := h2 t ht
    cases t with
    | val i => exact this
    | of v f => exact (rd_swap n false (v, f)).symm.trans this
  · obtain ⟨a, b, c, d, e, g⟩ := (h4 ps hps).2 p hp
    refine ⟨a, b, c, d, fun f hf => (rd_swap n true f).symm.trans (e f hf), fun w hw => g w ?_⟩
    rw [arS_app, arS_app] at hw ⊢
    simp only [List.mem_append] at hw ⊢
    rcases hw with (hw | hw) | hw
    · exact .inl (.inl hw)
    · exact .inr hw
    · exact .inl (.inr hw)
/-- all that the law draws -/
structure D76 (tbs : List (Str × List Str)) (bs : List Blk) (b0 b1 b2 : Blk) (ops : List Og) (sc e1 e2 : Sc) (o oi : Og) (s y : Stm) : Prop where
  bok : BlksOk tbs bs
  h0 : bs[0]? = some b0
  h1 : bs[1]? = some b1
  h2 : bs[2]? = some b2
  og : OgsR tbs [b0] ops sc
  l4 : ops.length ≤ 4
  oo : OgR tbs [b0] sc o e1
  oi : OgR tbs [b0] (sc ++ e1) oi e2
  so : ∃ ts adds, s = .put b2.1 ts adds ∧ LPutOk (sc ++ e1 ++ e2) b2 ts adds
  yo : ∃ ts adds, y = .put b1.1 ts adds ∧ ∀ sc, LPutOk sc b1 ts adds
section
variable {tbs : List (Str × List Str)} {bs : List Blk} {b0 b1 b2 : Blk} {ops : List Og} {sc e1 e2 : Sc} {o oi : Og} {s y : Stm}
theorem D76.nm (D : D76 tbs bs b0 b1 b2 ops sc e1 e2 o oi s y) : b1.1 ≠ b2.1 ∧ b0.1 ≠ b1.1 ∧ b0.1 ≠ b2.1 := by
  have nd := (List.nodup_append.mp D.bok.2.2.1).2.1
  have ne : ∀ {i j : Nat} {x z : Blk}, bs[i]? = some x → bs[j]? = some z → i ≠ j → x.1 ≠ z.1 := fun {i j x z} hi hj n e => by
    have h1 : (bs.map (·.1))[i]? = some x.1 := by rw [List.getElem?_map, hi]; rfl
    have h2 : (bs.map (·.1))[j]? = some z.1 := by rw [List.getElem?_map, hj]; rfl
    obtain ⟨l1, g1⟩ := List.getElem?_eq_some_iff.mp h1
    obtain ⟨l2, g2⟩ := List.getElem?_eq_some_iff.mp h2
    exact n ((List.getElem_inj nd).mp (g1.trans (e.trans g2.symm)))
  exact ⟨ne D.h1 D.h2 (by decide), ne D.h0 D.h1 (by decide), ne D.h0 D.h2 (by decide)⟩
theorem D76.yrt (D : D76 tbs bs b0 b1 b2 ops sc e1 e2 o oi s y) : (∀ s, RT tbs [b0] bs s y) ∧ putsS y = [b1.1] ∧ szS y = 1 ∧ dpS y = 0 := by
  obtain ⟨ts, adds, rfl, h⟩ := D.yo
  exact ⟨fun s => .put (List.mem_of_getElem? D.h1) (h s), by rw [putsS], by rw [szS], by rw [dpS]⟩
theorem D76.srt (D : D76 tbs bs b0 b1 b2 ops sc e1 e2 o oi s y) : RT tbs [b0] bs (sc ++ e1 ++ e2) s ∧ putsS s = [b2.1] ∧ szS s = 1 ∧ dpS s = 0 := by
  obtain ⟨ts, adds, rfl, h⟩ := D.so
  exact ⟨.put (List.mem_of_getElem? D.h2) h, by rw [putsS], by rw [szS], by rw [dpS]⟩
/-- a statement right for the openings -/
structure Md (tbs : List (Str × List Str)) (bs : List Blk) (b0 : Blk) (T : Stm) : Prop where
  rt : RT tbs [b0] bs [] T
  nd : (putsS T).Nodup
  ne : ∀ b ∈ putsS T, b0.1 ≠ b
  sz : szS T ≤ 10
  dp : dpS T ≤ 7
theorem D76.md (D : D76 tbs bs b0 b1 b2 ops sc e1 e2 o oi s y) {k : Int} {sd : Bool} {S : Stm} (rt : RT tbs [b0] bs sc S) (pq : PQ b1.1 [b1.1, b2.1] k 0 5 3 S) : Md tbs bs b0 (wr y k sd 0 S [] ops.reverse).1 := by
  obtain ⟨y1, y2, y3, y4⟩ := D.yrt
  have h := wr_pq (y := y) (side := sd) (os := ops.reverse) (p := []) (by simp) y2 y3 y4 pq
  rw [List.length_reverse] at h
  have l4 := D.l4
  obtain ⟨_, n1, n2⟩ := D.nm
  refine ⟨wr_rt y1 (by rw [List.reverse_reverse]; exact D.og) rt, h.nd, fun b hb => ?_, ?_, ?_⟩
  · have := h.sub b hb
    simp only [List.mem_cons, List.not_mem_nil, or_false] at this
    rcases this with rfl | rfl
    · exact n1
    · exact n2
  · have := h.sz; split at this <;> omega
  · have := h.dp; omega
theorem D76.inn (D : D76 tbs bs b0 b1 b2 ops sc e1 e2 o oi s y) : RT tbs [b0] bs (sc ++ e1) (oi.st [s]) ∧ putsS (oi.st [s]) = [b2.1] ∧ szS (oi.st [s]) = 2 ∧ dpS (oi.st [s]) = 1 := by
  obtain ⟨s1, s2, s3, s4⟩ := D.srt
  refine ⟨.wrap D.oi ⟨Nat.le_refl 1, (by decide : 1 ≤ 8)⟩ fun x hx => by rw [List.mem_singleton.mp hx]; exact s1, ?_, ?_, ?_⟩
  · rw [puts_og, putsB, putsB, s2]; rfl
  · rw [sz_og, szB, szB, s3]
  · rw [dp_og, dpB, dpB, s4]; rfl
theorem D76.lone (D : D76 tbs bs b0 b1 b2 ops sc e1 e2 o oi s y) {k : Int} (k0 : 0 ≤ k) {sd : Bool} : Md tbs bs b0 (wr y k sd 0 (o.st [oi.st [s]]) [] ops.reverse).1 := by
  obtain ⟨s1, s2, s3, s4⟩ := D.inn
  obtain ⟨n1, _, _⟩ := D.nm
  have e : putsS (o.st [oi.st [s]]) = [b2.1] := by rw [puts_og, putsB, putsB, s2]; rfl
  refine D.md (.wrap D.oo ⟨Nat.le_refl 1, (by decide : 1 ≤ 8)⟩ fun x hx => by rw [List.mem_singleton.mp hx]; exact s1) ⟨by rw [e]; simp, .inr (by rw [e]; simpa using n1), by rw [e]; simp, ?_, ?_⟩
  · rw [sz_og, szB, szB, s3, if_neg (by omega)]; decide
  · rw [dp_og, dpB, dpB, s4]; decide
theorem D76.two (D : D76 tbs bs b0 b1 b2 ops sc e1 e2 o oi s y) {sd : Bool} {lo : List Stm} (hl : lo = [y, oi.st [s]] ∨ lo = [oi.st [s], y]) : Md tbs bs b0 (wr y 9 sd 0 (o.st lo) [] ops.reverse).1 := by
  have l4 := D.l4
  rw [wr_ne (by rw [List.length_reverse]; omega)]
  obtain ⟨s1, s2, s3, s4⟩ := D.inn
  obtain ⟨y1, y2, y3, y4⟩ := D.yrt
  obtain ⟨n1, _, _⟩ := D.nm
  rcases hl with rfl | rfl
  · have e : putsS (o.st [y, oi.st [s]]) = [b1.1, b2.1] := by rw [puts_og, putsB, putsB, putsB, List.append_nil, y2, s2]; rfl
    refine D.md (.wrap D.oo ⟨(by decide : 1 ≤ 2), (by decide : 2 ≤ 8)⟩ fun x hx => ?_) ⟨by rw [e]; simpa using n1, .inl (by decide), fun b hb => by rw [e] at hb; exact hb, ?_, ?_⟩
    · rcases List.mem_cons.mp hx with rfl | hx
      · exact y1 _
      · rw [List.mem_singleton.mp hx]; exact s1
    · rw [sz_og, szB, szB, szB, s3, y3, if_pos (by decide)]; decide
    · rw [dp_og, dpB, dpB, dpB, s4, y4]; decide
  · have e : putsS (o.st [oi.st [s], y]) = [b2.1, b1.1] := by rw [puts_og, putsB, putsB, putsB, List.append_nil, y2, s2]; rfl
    refine D.md (.wrap D.oo ⟨(by decide : 1 ≤ 2), (by decide : 2 ≤ 8)⟩ fun x hx => ?_) ⟨by rw [e]; simpa using Ne.symm n1, .inl (by decide), fun b hb => by rw [e] at hb; simp only [List.mem_cons, List.not_mem_nil, or_false] at hb ⊢; exact hb.symm, ?_, ?_⟩
    · rcases List.mem_cons.mp hx with rfl | hx
      · exact s1
      · rw [List.mem_singleton.mp hx]; exact y1 _
    · rw [sz_og, szB, szB, szB, s3, y3, if_pos (by decide)]; decide
    · rw [dp_og, dpB, dpB, dpB, s4, y4]; decide
theorem og_down {sc : Sc} {x : Blk} {fs ss : List Str} {rd : List Blk} {o : Og} (l : o.isLoop = true) (n : o.asks x.1 = false) (h : o.ok tbs rd (arS (sc ++ [x])) fs ss) : o.ok tbs rd (arS sc) fs ss := by
  cases o with
  | seek v t f a => exact ⟨h.1, h.2.1, h.2.2.1, tm_down h.2.2.2 n⟩
  | look v b ts => cases l
  | same a b => cases l
  | _ => exact h
theorem og_up {sc ext : Sc} {fs ss : List Str} {rd : List Blk} {o : Og} (l : o.isLoop = true) (h : o.ok tbs rd (arS sc) fs ss) : o.ok tbs rd (arS (sc ++ ext)) fs ss := by
  cases o with
  | seek v t f a => exact ⟨h.1, h.2.1, h.2.2.1, tm_up h.2.2.2⟩
  | look v b ts => cases l
  | same a b => cases l
  | _ => exact h
theorem og_asks {sc : Sc} {fs ss : List Str} {rd : List Blk} {o : Og} {u : Str} (h : o.ok tbs rd (arS sc) fs ss) (n : u ∉ sc.map (·.1)) : o.asks u = false := by
  cases o with
  | seek v t f a => exact tm_in h.2.2.2 n
  | _ => rfl
/-- the two loops have changed places; and back -/
theorem D76.turned (D : D76 tbs bs b0 b1 b2 ops sc e1 e2 o oi s y) {k : Int} (k0 : 0 ≤ k) {sd : Bool} (no : turnNo o oi [oi.st [s]] = false) : Md tbs bs b0 (wr y k sd 0 (oi.st [o.st [s]]) [] ops.reverse).1 ∧ turnNo oi o [o.st [s]] = false := by
  unfold turnNo at no
  simp only [Bool.or_eq_false_iff, Bool.not_eq_false'] at no
  obtain ⟨⟨⟨n1, _⟩, n2⟩, n3⟩ := no
  obtain ⟨s1, s2, s3, s4⟩ := D.srt
  obtain ⟨nm, _, _⟩ := D.nm
  rcases D.oo with ⟨fs, ss, h1, h2, h3, rfl⟩ | ⟨a, b, rfl, _⟩
  · rcases D.oi with ⟨fs', ss', g1, g2, g3, rfl⟩ | ⟨a, b, rfl, _⟩
    · have ne : o.v ≠ oi.v := fun z => g3 (by rw [List.map_append, ← z]; simp)
      have g3' : oi.v ∉ sc.map (·.1) := fun z => g3 (by rw [List.map_append]; exact List.mem_append_left _ z)
      have h3' : o.v ∉ (sc ++ [(oi.v, fs', ss')]).map (·.1) := fun z => by
        rw [List.map_append] at z
        rcases List.mem_append.mp z with z | z
        · exact h3 z
        · simp at z; exact ne z
      have rs : RT tbs [b0] bs (sc ++ [(oi.v, fs', ss')] ++ [(o.v, fs, ss)]) s := by
        obtain ⟨ts, adds, rfl, h⟩ := D.so
        exact .put (List.mem_of_getElem? D.h2) (put_swap (x := (o.v, fs, ss)) (z := (oi.v, fs', ss')) ne h)
      have e : putsS (oi.st [o.st [s]]) = [b2.1] := by rw [puts_og, putsB, putsB, puts_og, putsB, putsB, s2]; rfl
      refine ⟨D.md (.wrap (ext := [(oi.v, fs', ss')]) (.inl ⟨fs', ss', og_down (x := (o.v, fs, ss)) n2 n3 g1, g2, g3', rfl⟩) ⟨Nat.le_refl 1, (by decide : 1 ≤ 8)⟩ fun x hx => ?_) ⟨by rw [e]; simp, .inr (by rw [e]; simpa using nm), by rw [e]; simp, ?_, ?_⟩, ?_⟩
      · rw [List.mem_singleton.mp hx]
        exact .wrap (ext := [(o.v, fs, ss)]) (.inl ⟨fs, ss, og_up n1 h1, h2, h3', rfl⟩) ⟨Nat.le_refl 1, (by decide : 1 ≤ 8)⟩ fun x hx => by rw [List.mem_singleton.mp hx]; exact rs
      · rw [sz_og, szB, szB, sz_og, szB, szB, s3, if_neg (by omega)]; decide
      · rw [dp_og, dpB, dpB, dp_og, dpB, dpB, s4]; decide
      · unfold turnNo
        rw [n1, n2, og_asks h1 g3']; rfl
    · cases n2
  · cases n1
theorem D76.prog (D : D76 tbs bs b0 b1 b2 ops sc e1 e2 o oi s y) {s0 T : Stm} (h0 : RT tbs [] bs [] s0) (p0 : putsS s0 = [b0.1]) (z0 : szS s0 ≤ 7) (d0 : dpS s0 ≤ 7) (m : Md tbs bs b0 T) : ProgOk 8 tbs bs [s0, T] := by
  have bok := D.bok
  have ndt := (List.nodup_append.mp bok.2.2.1).1
  have ndb := (List.nodup_append.mp bok.2.2.1).2.1
  have en : ∀ x ∈ bs, lkA bs x.1 = some x.2 := fun x hx => lkA_ofI ndb hx
  have m0 := List.mem_of_getElem? D.h0
  refine prog_rt (rd := [b0]) (b0 := b0.1) bok ⟨rfl, ndt, en, fun x h => nomatch h⟩ ⟨rfl, ndt, en, fun x h => by rw [List.mem_singleton.mp h]; exact ⟨en b0 m0, (bok.2.2.2 b0 m0).s1⟩⟩ h0 p0 d0 (fun x h => by rw [List.mem_singleton.mp h]) (fun s hs => ?_) ?_ ?_
  · rw [List.mem_singleton.mp hs]
    exact ⟨m.rt, m.dp, m.nd, fun b hb x hx => by rw [List.mem_singleton.mp hx]; exact m.ne b hb⟩
  · rw [szB, szB, szB]; have := m.sz; omega
  · simp
end
theorem at_76 {y : Stm} {k : Int} {sd : Bool} {ops : List Og} {S s0 : Stm} : AtB [s0, (wr y k sd 0 S [] ops).1] (1 :: (wr y k sd 0 S [] ops).2) S :=
  ⟨_, _, _, rfl, rfl, wr_at .nil⟩
theorem rp_76 {y : Stm} {k : Int} {sd : Bool} {ops : List Og} {S S' s0 : Stm} : RpB [s0, (wr y k sd 0 S [] ops).1] (1 :: (wr y k sd 0 S [] ops).2) S' [s0, (wr y k sd 0 S' [] ops).1] :=
  ⟨_, _, _, _, rfl, rfl, wr_rp .nil, rfl⟩
end Fm

namespace Fm
open PySem PySem.Spec PyProof.Rows L2
/-! ### Shape(..) and Store(..) of right things -/
theorem RowD.inj {d : PyData} {ds es : List PyData} (h : RowD d ds) (h' : RowD d es) : ds = es := by
  rcases h with rfl | rfl <;> rcases h' with e | e <;> cases e <;> rfl
theorem ShpD.inj {d : PyData} {ts ts' : List (Str × List Str)} (h : ShpD d ts) (h' : ShpD d ts') : ts = ts' := by
  obtain ⟨ds, r, _, _, t, _⟩ := h
  obtain ⟨ds', r', _, _, t', _⟩ := h'
  rw [r'.inj r] at t'
  exact t.inj t'
theorem TabsD.upto : ∀ {ds : List PyData} {ts : List (Str × List Str)}, TabsD ds ts → ∀ {k : Nat} {us : List (Str × List Str)}, TabsD (ds.take k) us → us = ts.take k := fun h k us h' => h'.inj (h.take k)
theorem ShpD.bad {d : PyData} {ts : List (Str × List Str)} {i : Int} (h : ShpD d ts) (h' : ShpBad d i) : False := by
  obtain ⟨ds, r, g1, g2, t, nd⟩ := h
  rcases h' with ⟨_, h'⟩ | ⟨es, k, e, us, r', _, _, _, he, hu, _, hno⟩
  · exact h' ⟨ds, r, g1, g2⟩
  · rw [r'.inj r] at he hu
    obtain ⟨t1, ht1, td⟩ := t.get he
    refine hno ⟨t1, td, ?_⟩
    rw [t.upto hu, List.map_take]
    exact notin_take nd (by rw [List.getElem?_map, ht1]; rfl)
theorem tabs_dTab : ∀ {tbs : List (Str × List Str)}, (∀ t ∈ tbs, GoodT t) → TabsD (tbs.map dTab) tbs
  | [], _ => .nil
  | t :: ts, h => by
    have g := h t List.mem_cons_self
    exact .cons ⟨_, rfl, g.1, .inr rfl, g.2.1, g.2.2.1, g.2.2.2.1, g.2.2.2.2⟩ (tabs_dTab fun x hx => h x (List.mem_cons_of_mem _ hx))
theorem shp_list {tbs : List (Str × List Str)} (g : GoodTs tbs) : ShpD (.list (tbs.map dTab)) tbs := ⟨_, .inl rfl, by rw [List.length_map]; exact g.2.2.1, by rw [List.length_map]; exact g.2.2.2, tabs_dTab g.1, g.2.1⟩
theorem shape_mk {C CE : Addr} {S : Addr → Prop} {q : Bool} {H : Hp} {n : Nat} {v : V} {d : PyData} {tbs : List (Str × List Str)} {R : Hp → Prop} {E : XK} {x dx : Addr} (hx : H x = none) (hdx : H dx = none) (ne : dx ≠ x) (hd : Dt S q H n v d) (hs : ShpD d tbs) (k : ∀ H', Kp [] H H' → ShapeAt C H' x tbs → R H') :
    spShapeI C CE [.ref x, v] (upd (upd H dx (.own x)) x (.ins C dx [])) (fun u H2 => u = .non ∧ R H2) E := by
  have k0 : Kp [] H (upd (upd H dx (.own x)) x (.ins C dx [])) := (Kp.new hdx).snoc (by rw [upd_ne (Ne.symm ne)]; exact hx)
  refine ⟨x, dx, S, q, n, v, d, rfl, upd_same, hd.keep k0, fun us H' hu k' sa => ⟨rfl, ?_⟩, fun i dd H' b _ _ _ => (hs.bad b).elim⟩
  rw [hu.inj hs] at sa
  exact k H' (k0.via k' (by simp [hx])) sa
end Fm

namespace PySem
namespace HandSPX
open PySem.W PySem.Calls PyProof.Rows
section
variable {M : Model} {prog : Program} {w : World} {A : Around} {E : Value → Shared → Prop} {R : Result → Shared → Prop} {h : Heap} {g : Array GenState} {d : Drawn} {t : Nat} {os : OsState}
variable {nm q : Str} {C N : Addr} {bs bm bmB : List Value} {hdct : Bool} {sn : List Str} {sub : List Value} {ab : Bool} {col : Option Bool} {dd : Option Addr} {k0 k1 k2 k3 k5 : Option Value} {B newId initId : String} {kw : List (Str × Value)}
/-! an own error made with keywords: the base's maker passes them by -/
end
end HandSPX
end PySem

namespace Fm
open PySem PySem.Spec PyProof.Rows L2
section
variable {X : Cx}
end
end Fm

namespace Fm
open PySem PySem.Spec PyProof.Rows L2
/-- an error without an __init__ (as in FmStoreT, for laws without that text) -/
structure Err0 (K : PySem.W.Frag) (mg : Str → Option Value) (x : Str) (C : Addr) : Prop where
  ex : PySem.W.excIn K C [.type "ValueError", .type "Exception", .type "BaseException", .type "object"] "ValueError.__new__" = true
  gl : mg x = some (.ref C)
  kp : PySem.W.keepIn K (.ref C) = true
  bs : PySem.W.subIn K (.ref C) (.type "BaseException") = some true
  ty : PySem.W.typeIn K (.ref C) = some (.type "type")
theorem pe_hasX {X : Cx} {E : XK} {k : Nat} {x : Str} {ps : List Str} {sp : Sp} {e : Expr} {es : List Expr} {t : TA} {p pos : Pos} (h : Has X.prog X.w X.K X.mg X.base (L2.CX X.prog X.w) x ps k sp) (hr : Room k X.A) (hx : Passes (L2.CX X.prog X.w) X E) (ha : PA X (e :: es) t) (hg : Gl X x := by rfl)
    (hdb : (x == ("__debug__" : Str)) = false := by decide) (he : starEach (e :: es) X.env = (false, eval e X.env) :: starEach es X.env := by rfl) (hpl : (backTo pos (starEach es X.env)).any (·.1) = false := by rfl) :
    PE X (.Call (.Name x p) (e :: es) [] pos) (tCall sp [] E t) := by
  obtain ⟨f, fd, F, g, kp, b⟩ := h
  exact pe_call F hr hg g kp b .nil hx ha hdb he hpl
end Fm

namespace Fm
open PySem PySem.Spec PyProof.Rows L2
/-! ### the law -/
def spLaw (K : PySem.W.Frag) : Sp := fun vs H Q _ => ∃ (a : Addr) (ns : List Int), vs = [.ref a] ∧ SqL K H a (ns.map V.int) ∧ ∀ H', Q (.bl true) H'
theorem og_word0 {H : Hp} {m : Nat} {ws : List V} {o : Og} (iws : ImAll H m ws o.dat) : atI ws 0 = some (.str o.word) := by
  obtain ⟨ds, ed, _, _⟩ := o.dat_word
  rw [ed] at iws
  obtain ⟨v1, w1, rfl, h1, _⟩ := iws.consI
  have e := h1.strI.1; subst e
  exact at0
theorem og_var0 {H : Hp} {m : Nat} {ws : List V} {o : Og} (es : o.isSame = false) (iws : ImAll H m ws o.dat) : atI ws 1 = some (.str o.v) := by
  obtain ⟨ds2, ed2⟩ := o.dat_v es
  rw [ed2] at iws
  obtain ⟨v1, w1, rfl, _, g1⟩ := iws.consI
  obtain ⟨v2, w2, rfl, h2, _⟩ := g1.consI
  have e := h2.strI.1; subst e
  exact atI_nat (k := 1) rfl
theorem a2_app {α β : Type} {R : α → β → Prop} {as bs : List α} {cs ds : List β} (h : A2 R as cs) (g : A2 R bs ds) : A2 R (as ++ bs) (cs ++ ds) := by
  induction h with
  | nil => exact g
  | cons a _ ih => exact .cons a ih
/-- what stands all along -/
structure En5 (b c t l : Addr) (xs ys : List V) (tbs : List (Str × List Str)) (bs : List Blk) (H : Hp) : Prop where
  bg : Bag H b c
  ht : H t = some (.lst xs)
  tb : t ≠ b
  ix : ImAll H 2 xs (tbs.map dTab)
  g : GoodTs tbs
  hl : H l = some (.lst ys)
  lb : l ≠ b
  iy : ImAll H 2 ys (bs.map dBlk)
  l4 : bs.length = 3
  gb : ∀ x ∈ bs, BlkG x
  nd : (tbs.map (·.1) ++ bs.map (·.1)).Nodup
theorem En5.bag {b c t l : Addr} {xs ys : List V} {tbs : List (Str × List Str)} {bs : List Blk} {H H' : Hp} (h : En5 b c t l xs ys tbs bs H) (k : Kp [b] H H') (B : Bag H' b c) : En5 b c t l xs ys tbs bs H' :=
  ⟨B, k.at_ _ _ h.ht (by simpa using h.tb), h.tb, ImAll.kp k h.ix, h.g, k.at_ _ _ h.hl (by simpa using h.lb), h.lb, ImAll.kp k h.iy, h.l4, h.gb, h.nd⟩
theorem En5.kp0 {b c t l : Addr} {xs ys : List V} {tbs : List (Str × List Str)} {bs : List Blk} {H H' : Hp} (h : En5 b c t l xs ys tbs bs H) (k : Kp [] H H') : En5 b c t l xs ys tbs bs H' := h.bag k.zero (h.bg.keep0 k)
theorem En5.bok {b c t l : Addr} {xs ys : List V} {tbs : List (Str × List Str)} {bs : List Blk} {H : Hp} (h : En5 b c t l xs ys tbs bs H) : BlksOk tbs bs := ⟨by have := h.l4; omega, by have := h.l4; omega, h.nd, h.gb⟩
theorem En5.blk {b c t l : Addr} {xs ys : List V} {tbs : List (Str × List Str)} {bs : List Blk} {H : Hp} (h : En5 b c t l xs ys tbs bs H) (i : Nat) (hi : i < 3) : ∃ (x : Blk) (a : Addr), bs[i]? = some x ∧ ys[i]? = some (.ref a) ∧ Im H 2 (.ref a) (dBlk x) ∧ BlkG x := by
  obtain ⟨x, hx⟩ : ∃ x, bs[i]? = some x := ⟨_, List.getElem?_eq_getElem (by have := h.l4; omega)⟩
  obtain ⟨v, hv, iv⟩ := h.iy.get (i := i) (x := dBlk x) (by rw [List.getElem?_map, hx]; rfl)
  obtain ⟨a, _, _, rfl, _⟩ := blk_at iv
  exact ⟨x, a, hx, hv, iv, h.gb x (List.mem_of_getElem? hx)⟩
section
variable {P : Program} {w : World} {K : PySem.W.Frag} {mg : Str → Option Value} {base : Heap}
theorem ok_law {f fIs fP CP CS CE CM : Addr} {fd fdIs fdP : FuncData} (B : Bi mg) (F : Fun K "law" "law" s_law f fd) (T : ShCls K mg CS) (mgP : mg "Program" = some (.ref CP))
    (MS : Mk K CS fIs) (GIs : FnOk P w K mg base (L2.CX P w) 4 fIs fdIs ["self", "tables"] (spShapeI CS CE)) (bIs : Binds K fdIs ["self", "tables"] [])
    (MP : Mk K CP fP) (GP : FnOk P w K mg base CX0 16 fP fdP ["self", "shape", "blocks", "body"] (spProgI CP CS 8)) (bP : Binds K fdP ["self", "shape", "blocks", "body"] [])
    (G_bag : Has P w K mg base CX0 "_law_bag" ["_law_script"] 1 (spBag K)) (G_pick : Has P w K mg base CX0 "_law_pick" ["_law_bag_here", "_law_many"] 1 spPick) (G_tables : Has P w K mg base CX0 "_law_tables" ["_law_bag_here"] 3 spTables) (G_blocks : Has P w K mg base CX0 "_law_blocks" ["_law_bag_here", "_law_tables_here", "_law_many"] 3 spBlocks) (G_put : Has P w K mg base CX0 "_law_put" ["_law_bag_here", "_law_block", "_law_scope"] 4 spLPut) (G_top : Has P w K mg base CX0 "_law_top" ["_law_bag_here", "_law_tables_here", "_law_readable", "_law_block", "_law_others"] 6 spTop) (G_around : Has P w K mg base CX0 "_law_around" ["_law_bag_here", "_law_tables_here", "_law_readable", "_law_least", "_law_most"] 6 spAround) (G_of : Has P w K mg base CX0 "_law_of" ["_law_term_here", "_law_variable"] 1 spNames) (G_idle_put : Has P w K mg base CX0 "_law_idle_put" ["_law_bag_here", "_law_block"] 3 spIdle) (G_loop : Has P w K mg base CX0 "_law_loop" ["_law_bag_here", "_law_tables_here", "_law_held", "_law_scope"] 5 spLoop) (G_wrapped : Has P w K mg base CX0 "_law_wrapped" ["_law_openings", "_law_statement", "_law_beside", "_law_at", "_law_side"] 1 spWrapped) (G_moved : Has P w K mg base (L2.CX P w) "moved" ["program", "move"] 18 (spMovedG CP CS CM PreT)) (G_leads : Has P w K mg base CX0 "_law_leads" ["_law_program", "_law_tables_here", "_law_blocks_here", "_law_body", "_law_move", "_law_due_blocks", "_law_due"] 20 (spLeadsG CP CS PreT)) : FnOk P w K mg base CX0 21 f fd ["_law_script"] (spLaw K) := by
  refine F.ok sc_law (fun vs H Q E h => ?_) (fun cdv A outer s0 H vs Q E hr h => ?_)
  · obtain ⟨a, ns, rfl, _⟩ := h; rfl
  · obtain ⟨a, ns0, rfl, hS, k⟩ := h
    have hu := hu_of hr
    refine ⟨_, (pss_cons (ps_set (i := 1) sc_law.nd rfl (by first | exact Or.inl rfl | exact Or.inr rfl) (pe_has G_bag (hr.mono (by omega)) (pa_cons (pv 0) pa_nil)))
  (pss_cons (ps_set (i := 2) sc_law.nd rfl (by first | exact Or.inl rfl | exact Or.inr rfl) (pe_has G_pick (hr.mono (by omega)) (pa_cons (pv 1) (pa_cons pe_int pa_nil))))
  (pss_cons (ps_set (i := 3) sc_law.nd rfl (by first | exact Or.inl rfl | exact Or.inr rfl) (pe_has G_pick (hr.mono (by omega)) (pa_cons (pv 1) (pa_cons pe_int pa_nil))))
  (pss_cons (ps_set (i := 4) sc_law.nd rfl (by first | exact Or.inl rfl | exact Or.inr rfl) (pe_has G_pick (hr.mono (by omega)) (pa_cons (pv 1) (pa_cons pe_int pa_nil))))
  (pss_cons (ps_set (i := 5) sc_law.nd rfl (by first | exact Or.inl rfl | exact Or.inr rfl) (pe_has G_tables (hr.mono (by omega)) (pa_cons (pv 1) pa_nil)))
  (pss_cons (ps_set (i := 6) sc_law.nd rfl (by first | exact Or.inl rfl | exact Or.inr rfl) (pe_has G_blocks (hr.mono (by omega)) (pa_cons (pv 1) (pa_cons (pv 5) (pa_cons pe_int pa_nil)))))
  (pss_cons (ps_asg (pe_has G_around (hr.mono (by omega)) (pa_cons (pv 1) (pa_cons (pv 5) (pa_cons (pe_lst (pa_cons (pe_ix ix_list (pv 6) pe_int (fun _ _ => rfl)) pa_nil)) (pa_cons pe_int (pa_cons pe_int pa_nil)))))) (pg_tup rfl (pgs_cons (pg_name (i := 7) sc_law.nd rfl (by first | exact Or.inl rfl | exact Or.inr rfl)) (pgs_cons (pg_name (i := 8) sc_law.nd rfl (by first | exact Or.inl rfl | exact Or.inr rfl)) pgs_nil))))
  (pss_cons (ps_asg (pe_has G_loop (hr.mono (by omega)) (pa_cons (pv 1) (pa_cons (pv 5) (pa_cons (pe_ix ix_list (pv 6) pe_int (fun _ _ => rfl)) (pa_cons (pv 8) pa_nil))))) (pg_tup rfl (pgs_cons (pg_name (i := 9) sc_law.nd rfl (by first | exact Or.inl rfl | exact Or.inr rfl)) (pgs_cons (pg_name (i := 10) sc_law.nd rfl (by first | exact Or.inl rfl | exact Or.inr rfl)) pgs_nil))))
  (pss_cons (ps_asg (pe_has G_loop (hr.mono (by omega)) (pa_cons (pv 1) (pa_cons (pv 5) (pa_cons (pe_ix ix_list (pv 6) pe_int (fun _ _ => rfl)) (pa_cons (pv 10) pa_nil))))) (pg_tup rfl (pgs_cons (pg_name (i := 11) sc_law.nd rfl (by first | exact Or.inl rfl | exact Or.inr rfl)) (pgs_cons (pg_name (i := 12) sc_law.nd rfl (by first | exact Or.inl rfl | exact Or.inr rfl)) pgs_nil))))
  (C8.pss_cut (ps_set (i := 13) sc_law.nd rfl (by first | exact Or.inl rfl | exact Or.inr rfl) (pe_tup (pa_cons (pe_has G_put (hr.mono (by omega)) (pa_cons (pv 1) (pa_cons (pe_ix ix_list (pv 6) pe_int (fun _ _ => rfl)) (pa_cons (pv 12) pa_nil)))) pa_nil)))
  (pss_cons (ps_set (i := 14) sc_law.nd rfl (by first | exact Or.inl rfl | exact Or.inr rfl) (pe_has G_idle_put (hr.mono (by omega)) (pa_cons (pv 1) (pa_cons (pe_ix ix_list (pv 6) pe_int (fun _ _ => rfl)) pa_nil))))
  (pss_cons (ps_set (i := 15) sc_law.nd rfl (by first | exact Or.inl rfl | exact Or.inr rfl) (pe_tup (pa_cons (pe_op op_catA (pv 11) (pe_tup (pa_cons (pv 13) pa_nil))) pa_nil)))
  (C8.pss_cut (ps_if (pt_cmpR op_eq (pv 2) pe_int (nomark _))
  (pss_one (ps_set (i := 15) sc_law.nd rfl (by first | exact Or.inl rfl | exact Or.inr rfl) (pe_op op_catA (pe_tup (pa_cons (pv 14) pa_nil)) (pv 15))))
  pss_nil)
  (C8.pss_cut (ps_if (pt_cmpR op_eq (pv 2) pe_int (nomark _))
  (pss_one (ps_set (i := 15) sc_law.nd rfl (by first | exact Or.inl rfl | exact Or.inr rfl) (pe_op op_catA (pv 15) (pe_tup (pa_cons (pv 14) pa_nil)))))
  pss_nil)
  (C8.pss_cut (ps_if (pt_cmpR op_in_seq (pv 2) (pe_tup (pa_cons pe_int (pa_cons pe_int pa_nil))) (by rfl))
  (pss_one (ps_set (i := 3) sc_law.nd rfl (by first | exact Or.inl rfl | exact Or.inr rfl) pe_int))
  pss_nil)
  (pss_cons (ps_asg (pe_has G_wrapped (hr.mono (by omega)) (pa_cons (pv 7) (pa_cons (pe_op op_catA (pv 9) (pe_tup (pa_cons (pv 15) pa_nil))) (pa_cons (pv 14) (pa_cons (pv 3) (pa_cons (pv 4) pa_nil)))))) (pg_tup rfl (pgs_cons (pg_name (i := 16) sc_law.nd rfl (by first | exact Or.inl rfl | exact Or.inr rfl)) (pgs_cons (pg_name (i := 17) sc_law.nd rfl (by first | exact Or.inl rfl | exact Or.inr rfl)) pgs_nil))))
  (pss_cons (ps_set (i := 18) sc_law.nd rfl (by first | exact Or.inl rfl | exact Or.inr rfl) (pe_has G_top (hr.mono (by omega)) (pa_cons (pv 1) (pa_cons (pv 5) (pa_cons (pe_lst pa_nil) (pa_cons (pe_ix ix_list (pv 6) pe_int (fun _ _ => rfl)) (pa_cons (pe_lst pa_nil) pa_nil)))))))
  (pss_cons (ps_set (i := 19) sc_law.nd rfl (by first | exact Or.inl rfl | exact Or.inr rfl) (pe_tup (pa_cons pe_str (pa_cons pe_str (pa_cons pe_str (pa_cons pe_str (pa_cons pe_str pa_nil)))))))
  (pss_cons (ps_set (i := 20) sc_law.nd rfl (by first | exact Or.inl rfl | exact Or.inr rfl) pe_non)
  (C8.pss_cut (ps_if (PW.pt (pw_and (pt_cmpR op_notIn_seq (pv 2) (pe_tup (pa_cons pe_int (pa_cons pe_int pa_nil))) (by rfl)) (pw_and (pt_cmpR op_in_seq (pe_ix (r := rIxT K) ix_tup (pv 9) pe_int (fun _ _ => rfl)) (pv 19) (by rfl)) (pw_and1 (pt_cmpR op_in_seq (pe_ix (r := rIxT K) ix_tup (pv 11) pe_int (fun _ _ => rfl)) (pv 19) (by rfl))))))
  (pss_one (ps_if (PW.pt (pw_or (pt_cmpR op_ne (pe_ix (r := rIxT K) ix_tup (pv 11) pe_int (fun _ _ => rfl)) pe_str (nomark _)) (pw_or1 (pt_not (pt_val (pe_has G_of (hr.mono (by omega)) (pa_cons (pe_ix (r := rIxT K) ix_tup (pv 11) pe_int (fun _ _ => rfl)) (pa_cons (pe_ix (r := rIxT K) ix_tup (pv 9) pe_int (fun _ _ => rfl)) pa_nil))))))))
  (pss_cons (ps_set (i := 21) sc_law.nd rfl (by first | exact Or.inl rfl | exact Or.inr rfl) (pe_op op_catA (pv 11) (pe_tup (pa_cons (pe_tup (pa_cons (pe_op op_catA (pv 9) (pe_tup (pa_cons (pv 13) pa_nil))) pa_nil)) pa_nil))))
  (pss_one (ps_set (i := 20) sc_law.nd rfl (by first | exact Or.inl rfl | exact Or.inr rfl) (pe_lst (pa_cons (pv 18) (pa_cons (pe_ix (r := rIxT K) ix_tup (pe_has G_wrapped (hr.mono (by omega)) (pa_cons (pv 7) (pa_cons (pv 21) (pa_cons (pv 14) (pa_cons (pv 3) (pa_cons (pv 4) pa_nil)))))) pe_int (fun _ _ => rfl)) pa_nil))))))
  pss_nil))
  pss_nil)
  (pss_cons (ps_set (i := 22) sc_law.nd rfl (by first | exact Or.inl rfl | exact Or.inr rfl) (pe_lst (pa_cons (pv 18) (pa_cons (pv 16) pa_nil))))
  (pss_cons (ps_set (i := 23) sc_law.nd rfl (by first | exact Or.inl rfl | exact Or.inr rfl) (pe_make (E := E0) MP GP (hr.mono (by omega)) rfl mgP bP .nil pass0 (pa_cons (pe_make (E := E0) MS GIs (hr.mono (by omega)) rfl T.mgC bIs .nil passL (pa_cons (pe_callTy call_list_of (by rfl) B.list (by decide +kernel) (pa_cons (pv 5) pa_nil)) pa_nil)) (pa_cons (pe_callTy call_list_of (by rfl) B.list (by decide +kernel) (pa_cons (pv 6) pa_nil)) (pa_cons (pe_callTy call_list_of (by rfl) B.list (by decide +kernel) (pa_cons (pv 22) pa_nil)) pa_nil)))))
  (pss_cons (ps_set (i := 24) sc_law.nd rfl (by first | exact Or.inl rfl | exact Or.inr rfl) (pe_tup (pa_cons pe_str (pa_cons (pe_op op_catA (pe_tup (pa_cons pe_int pa_nil)) (pv 17)) pa_nil))))
  (pss_cons (ps_if (pt_not (pt_val (pe_has G_leads (hr.mono (by omega)) (pa_cons (pv 23) (pa_cons (pv 5) (pa_cons (pv 6) (pa_cons (pv 22) (pa_cons (pv 24) (pa_cons (pv 6) (pa_cons (pv 20) pa_nil))))))))))
  (pss_one (ps_ret pe_bl))
  pss_nil)
  (pss_cons (ps_if (pt_cmpR op_isN (pv 20) pe_non (nomark _))
  (pss_one (ps_ret pe_bl))
  pss_nil)
  (pss_one (ps_ret (pe_has G_leads (hr.mono (by omega)) (pa_cons (pe_hasX (E := E0) G_moved (hr.mono (by omega)) passL (pa_cons (pv 23) (pa_cons (pv 24) pa_nil))) (pa_cons (pv 5) (pa_cons (pv 6) (pa_cons (pv 20) (pa_cons (pv 24) (pa_cons (pv 6) (pa_cons (pv 22) pa_nil))))))))))))))))))))))))))))))))))), ?_⟩
    dsimp only [L2.cxOf, L2.Cx.nox]
    have hsz : sizeLine = 16777216 := rfl
    refine ⟨_, rfl, a, ns0, rfl, hS, fun b c H1 k1 hb hc BG1 => ?_⟩
    refine ⟨_, rfl, b, c, 6, rfl, BG1, by decide, by decide, fun cr H2 cr0 cr1 BG2 _ => ?_⟩
    refine ⟨_, rfl, b, c, 4, rfl, BG2, by decide, by decide, fun at0' H4 at00 at01 BG4 _ => ?_⟩
    refine ⟨_, rfl, b, c, 2, rfl, BG4, by decide, by decide, fun si H5 si0 si1 BG5 _ => ?_⟩
    obtain ⟨sd, rfl⟩ : ∃ sd : Bool, si = if sd then 1 else 0 := by
      rcases (show si = 0 ∨ si = 1 by omega) with rfl | rfl
      · exact ⟨false, rfl⟩
      · exact ⟨true, rfl⟩
    refine ⟨_, rfl, b, c, rfl, BG5, fun t xs tbs H6 BG6 k6 t0 ht ix g => ?_⟩
    have tb := (BG5.new t0).1
    refine ⟨_, rfl, _, rfl, b, c, t, xs, tbs, 3, rfl, BG6, ht, tb, ix, g, by decide, fun l ys bs H7 BG7 k7 l0 hl iy l4 gb nd => ?_⟩
    have lb := (BG6.new l0).1
    have E7 : En5 b c t l xs ys tbs bs H7 := ⟨BG7, k7.at_ _ _ ht (by simpa using tb), tb, ImAll.kp k7 ix, g, hl, lb, iy, l4, gb, nd⟩
    obtain ⟨b0, a0, eb0, hv0, ib0, gb0⟩ := E7.blk 0 (by decide)
    obtain ⟨b1, a1, eb1, hv1, ib1, gb1⟩ := E7.blk 1 (by decide)
    obtain ⟨b2, a2, eb2, hv2, ib2, gb2⟩ := E7.blk 2 (by decide)
    -- the openings
    refine ⟨_, rfl, _, rfl, _, rfl, l, _, 0, .ref a0, rfl, rfl, SqL.of E7.hl, atI_nat (k := 0) hv0, by show 1 ≤ sizeLine; decide, fun r nr => ?_⟩
    have q8 : Kp [] H7 (upd H7 r (.lst [.ref a0])) := Kp.new nr
    have hr8 : upd H7 r (.lst [.ref a0]) r = some (.lst [.ref a0]) := upd_same
    obtain ⟨rb, _⟩ := E7.bg.new nr
    have E8 := E7.kp0 q8
    generalize upd H7 r (.lst [.ref a0]) = H8 at q8 hr8 E8 ⊢
    refine ⟨b, c, t, r, xs, [.ref a0], tbs, [b0], 0, 1, rfl, by decide, by decide, E8.bg, E8.ht, tb, E8.ix, g, hr8, rb, .cons (Im.kp q8 ib0) .nil, (fun x h => by rw [List.mem_singleton.mp h]; exact gb0), by simp, fun pr oA sA os ss ops sc H9 k9 hpr I9 _ _ l2 lo => ?_⟩
    have E9 := E8.bag k9 I9.bg
    refine ⟨pr, _, rfl, SqT.of hpr, rfl, _, _, rfl, _, _, rfl, rfl, ?_⟩
    have k79 := q8.zero.trans k9
    -- the two
    refine ⟨_, rfl, _, rfl, _, rfl, l, _, 0, .ref a0, rfl, rfl, SqL.of E9.hl, atI_nat (k := 0) hv0, _, rfl, ?_⟩
    refine ⟨b, c, t, a0, sA, xs, tbs, b0, sc, rfl, E9.bg, E9.ht, tb, E9.ix, g, Im.kp k79 ib0, gb0, ⟨I9.sb, _, I9.op.hs, I9.op.is⟩, I9.op.ok, by omega, fun po pa sm o e1 H10 BG10 k10 hpo ipa oo SM okM => ?_⟩
    refine ⟨po, _, rfl, SqT.of hpo, rfl, _, _, rfl, _, _, rfl, rfl, ?_⟩
    have E10 := E9.bag k10 BG10
    have k710 := k79.trans k10
    have hoA10 := k10.at_ _ _ I9.op.ho (by simpa using I9.ob)
    have io10 := ImAll.kp k10 I9.op.io
    have ogs := I9.op.og
    have oAb := I9.ob
    have lsm : (sc ++ e1).length ≤ 2 := by
      rw [List.length_append]
      rcases oo with ⟨_, _, _, _, _, rfl⟩ | ⟨_, _, _, _, _, rfl⟩
      · show _ + 1 ≤ _; omega
      · show _ + 0 ≤ _; omega
    clear I9 hpr hpo hr8
    refine ⟨_, rfl, _, rfl, _, rfl, l, _, 0, .ref a0, rfl, rfl, SqL.of E10.hl, atI_nat (k := 0) hv0, _, rfl, ?_⟩
    refine ⟨b, c, t, a0, sm, xs, tbs, b0, sc ++ e1, rfl, E10.bg, E10.ht, tb, E10.ix, g, Im.kp k710 ib0, gb0, SM, okM, lsm, fun po2 pi sw oi e2 H11 BG11 k11 hpo2 ipi oi' SW okW => ?_⟩
    refine ⟨po2, _, rfl, SqT.of hpo2, rfl, _, _, rfl, _, _, rfl, rfl, ?_⟩
    have E11 := E10.bag k11 BG11
    have k711 := k710.trans k11
    -- what is put within
    refine ⟨fun σ H' => ∃ (inA : Addr) (s : Stm), σ = [some (.ref a), some (.ref b), some (.int cr), some (.int at0'), some (.int (if sd then 1 else 0)), some (.ref t), some (.ref l), some (.ref oA), some (.ref sA), some (.ref pa), some (.ref sm), some (.ref pi), some (.ref sw), some (.ref inA), none, none, none, none, none, none, none, none, none, none, none] ∧ Bag H' b c ∧ Kp [b] H11 H' ∧ Bd_ H' (.ref inA) [s] ∧ (∃ ts adds, s = .put b2.1 ts adds ∧ LPutOk (sc ++ e1 ++ e2) b2 ts adds), ?_, ?_⟩
    · refine ⟨_, rfl, _, rfl, l, _, 2, .ref a2, rfl, rfl, SqL.of E11.hl, atI_nat (k := 2) hv2, _, rfl, b, c, a2, sw, b2, sc ++ e1 ++ e2, rfl, E11.bg, Im.kp k711 ib2, gb2, SW, okW, fun sa ts2 adds2 H12 BG12 k12 isa lpS => ?_⟩
      refine ⟨by show 1 ≤ sizeLine; decide, fun inA ninA => ?_⟩
      have q13 : Kp [] H12 (upd H12 inA (.tup [.ref sa])) := Kp.new ninA
      have e13 : upd H12 inA (.tup [.ref sa]) inA = some (.tup [.ref sa]) := upd_same
      have B13 := BG12.keep0 q13
      exact ⟨inA, _, rfl, B13, k12.trans q13.zero, bd_of e13 (.cons ⟨6, Im.kp q13 isa⟩ .nil) (by simp), ⟨_, _, rfl, lpS⟩⟩
    rintro σ H13 ⟨inA, s, rfl, B13, k1113, bdi13, hs⟩
    have E13 := E11.bag k1113 B13
    -- the idle one
    refine ⟨_, rfl, _, rfl, l, _, 1, .ref a1, rfl, rfl, SqL.of E13.hl, atI_nat (k := 1) hv1, b, c, a1, b1, rfl, B13, Im.kp (k711.trans k1113) ib1, gb1, fun ya yts yadds H17 BG17 k17 sy17 lpY => ?_⟩
    have E17 := E13.bag k17 BG17
    have k1117 := k1113.trans k17
    have k1017 := k11.trans k1117
    have bdi17 := bdi13.kp k17
    obtain ⟨pa', m', oys, eo1, eo2, hpa17, ay17⟩ := Dt.tupI (Im.kp k1017 ipa)
    cases eo1
    cases eo2
    obtain ⟨pi', mi', iys, ei1, ei2, hpi17, ai17⟩ := Dt.tupI (Im.kp k1117 ipi)
    cases ei1
    cases ei2
    have loy : oys.length ≤ 5 := by rw [ay17.len]; cases o <;> simp [Og.dat]
    have liy : iys.length ≤ 5 := by rw [ai17.len]; cases oi <;> simp [Og.dat]
    generalize hy : Stm.put b1.1 yts yadds = y at sy17
    -- the lone one
    refine ⟨_, rfl, _, rfl, by show 1 ≤ sizeLine; decide, fun u1 nu1 => ?_⟩
    have q18 : Kp [] H17 (upd H17 u1 (.tup [.ref inA])) := Kp.new nu1
    have e18 : upd H17 u1 (.tup [.ref inA]) u1 = some (.tup [.ref inA]) := upd_same
    generalize upd H17 u1 (.tup [.ref inA]) = H18 at q18 e18 ⊢
    refine catA_in (q18.tp _ _ hpi17) e18 (by show _ + 1 ≤ sizeLine; omega) fun u2 H19 q19 hu2 => ?_
    have q1719 := q18.trans q19
    have smI : Sm_ H19 (.ref u2) (oi.st [s]) := sm_of hu2 (ImAll.kp q1719 ai17) (bdi17.kp q1719)
    refine ⟨by show 1 ≤ sizeLine; decide, fun p1 np1 => ?_⟩
    have q20 : Kp [] H19 (upd H19 p1 (.tup [.ref u2])) := Kp.new np1
    have e20 : upd H19 p1 (.tup [.ref u2]) p1 = some (.tup [.ref u2]) := upd_same
    generalize upd H19 p1 (.tup [.ref u2]) = H20 at q20 e20 ⊢
    have q1720 := q1719.trans q20
    have smI20 := smI.kp q20
    have sy20 := sy17.kp q1720
    have E20 := E17.kp0 q1720
    have inq : inV (V.int cr) [V.int 1, V.int 2] = decide (cr = 1 ∨ cr = 2) := by
      rcases (show cr = 0 ∨ cr = 1 ∨ cr = 2 ∨ cr = 3 ∨ cr = 4 ∨ cr = 5 by omega) with rfl | rfl | rfl | rfl | rfl | rfl <;> decide
    refine ⟨fun σ H' => ∃ (lo : Addr) (ws : List V) (lone : List Stm), σ = [some (.ref a), some (.ref b), some (.int cr), some (.int at0'), some (.int (if sd then 1 else 0)), some (.ref t), some (.ref l), some (.ref oA), some (.ref sA), some (.ref pa), some (.ref sm), some (.ref pi), some (.ref sw), some (.ref inA), some (.ref ya), some (.ref lo), none, none, none, none, none, none, none, none, none] ∧ Kp [] H20 H' ∧ H' lo = some (.tup ws) ∧ A2 (Sm_ H') ws lone ∧ ((cr = 1 ∧ lone = [y, oi.st [s]]) ∨ (cr ≠ 1 ∧ lone = [oi.st [s]])), ?_, ?_⟩
    · refine ⟨_, rfl, rfl, _, rfl, ?_⟩
      by_cases c1 : cr = 1
      · refine iteTs (decide_eq_true (by rw [c1])) ⟨_, rfl, by show 1 ≤ sizeLine; decide, fun p2 np2 => ⟨_, rfl, ?_⟩⟩
        have q : Kp [] H20 (upd H20 p2 (.tup [.ref ya])) := Kp.new np2
        have eq2 : upd H20 p2 (.tup [.ref ya]) p2 = some (.tup [.ref ya]) := upd_same
        generalize upd H20 p2 (.tup [.ref ya]) = H21 at q eq2 ⊢
        refine catA_in eq2 (q.tp _ _ e20) (by show 2 ≤ sizeLine; decide) fun p3 H22 q22 hp3 => ?_
        exact ⟨p3, _, _, rfl, q.trans q22, hp3, .cons (sy20.kp (q.trans q22)) (.cons (smI20.kp (q.trans q22)) .nil), .inl ⟨c1, rfl⟩⟩
      · exact iteFs (decide_eq_false fun z => c1 (V.int.inj z)) ⟨p1, _, _, rfl, Kp.refl _, e20, .cons smI20 .nil, .inr ⟨c1, rfl⟩⟩
    rintro σ H21 ⟨lo, ws, lone, rfl, k21, hlo21, aw21, cc21⟩
    refine ⟨fun σ H' => ∃ (lo : Addr) (ws : List V) (lone : List Stm), σ = [some (.ref a), some (.ref b), some (.int cr), some (.int at0'), some (.int (if sd then 1 else 0)), some (.ref t), some (.ref l), some (.ref oA), some (.ref sA), some (.ref pa), some (.ref sm), some (.ref pi), some (.ref sw), some (.ref inA), some (.ref ya), some (.ref lo), none, none, none, none, none, none, none, none, none] ∧ Kp [] H20 H' ∧ H' lo = some (.tup ws) ∧ A2 (Sm_ H') ws lone ∧ ((cr = 1 ∧ lone = [y, oi.st [s]]) ∨ (cr = 2 ∧ lone = [oi.st [s], y]) ∨ (cr ≠ 1 ∧ cr ≠ 2 ∧ lone = [oi.st [s]])), ?_, ?_⟩
    · refine ⟨_, rfl, rfl, _, rfl, ?_⟩
      by_cases c2 : cr = 2
      · rcases cc21 with ⟨z, _⟩ | ⟨_, rfl⟩
        · omega
        refine iteTs (decide_eq_true (by rw [c2])) ⟨_, rfl, _, rfl, by show 1 ≤ sizeLine; decide, fun p2 np2 => ?_⟩
        have q : Kp [] H21 (upd H21 p2 (.tup [.ref ya])) := Kp.new np2
        have eq2 : upd H21 p2 (.tup [.ref ya]) p2 = some (.tup [.ref ya]) := upd_same
        generalize upd H21 p2 (.tup [.ref ya]) = H22 at q eq2 ⊢
        have lws := aw21.len
        refine catA_in (q.tp _ _ hlo21) eq2 (by rw [lws]; show 2 ≤ 16777216; decide) fun p3 H23 q23 hp3 => ?_
        have qq := q.trans q23
        exact ⟨p3, _, _, rfl, k21.trans qq, hp3, a2_app (aw21.imp fun _ _ h => h.kp qq) (.cons ((sy20.kp k21).kp qq) .nil), .inr (.inl ⟨c2, rfl⟩)⟩
      · exact iteFs (decide_eq_false fun z => c2 (V.int.inj z)) ⟨lo, ws, lone, rfl, k21, hlo21, aw21, cc21.imp id fun z => .inr ⟨z.1, c2, z.2⟩⟩
    rintro σ H22 ⟨lo2, ws2, lone2, rfl, k22, hlo22, aw22, cc⟩
    clear k21 hlo21 aw21 cc21
    refine ⟨fun σ H' => ∃ (k : Int), σ = [some (.ref a), some (.ref b), some (.int cr), some (.int k), some (.int (if sd then 1 else 0)), some (.ref t), some (.ref l), some (.ref oA), some (.ref sA), some (.ref pa), some (.ref sm), some (.ref pi), some (.ref sw), some (.ref inA), some (.ref ya), some (.ref lo2), none, none, none, none, none, none, none, none, none] ∧ Kp [] H20 H' ∧ H' lo2 = some (.tup ws2) ∧ A2 (Sm_ H') ws2 lone2 ∧ (((cr = 1 ∨ cr = 2) ∧ k = 9) ∨ (cr ≠ 1 ∧ cr ≠ 2 ∧ k = at0')), ?_, ?_⟩
    · refine ⟨_, rfl, by show 2 ≤ sizeLine; decide, fun p2 np2 => ?_⟩
      have q : Kp [] H22 (upd H22 p2 (.tup [.int 1, .int 2])) := Kp.new np2
      refine ⟨p2, _, rfl, .inr (SqT.of upd_same), rfl, rfl, _, rfl, ?_⟩
      have aw' := aw22.imp fun _ _ h => h.kp q
      by_cases c12 : cr = 1 ∨ cr = 2
      · exact iteTs (by show inV _ _ = true; rw [inq]; exact decide_eq_true c12) ⟨9, rfl, k22.trans q, q.tp _ _ hlo22, aw', .inl ⟨c12, rfl⟩⟩
      · exact iteFs (by show inV _ _ = false; rw [inq]; exact decide_eq_false c12) ⟨at0', rfl, k22.trans q, q.tp _ _ hlo22, aw', .inr ⟨fun z => c12 (.inl z), fun z => c12 (.inr z), rfl⟩⟩
    rintro σ H23 ⟨kk, rfl, k23, hlo23, aw23, ck⟩
    clear hlo22 aw22 k22
    have q1723 := q1720.trans k23
    have k1123 : Kp [b] H11 H23 := k1117.trans q1723.zero
    have E23 := E20.kp0 k23
    have sy23 := sy20.kp k23
    have hpa23 := q1723.tp _ _ hpa17
    have ay23 := ImAll.kp q1723 ay17
    have ln2 : lone2.length ≤ 2 := by rcases cc with ⟨_, z⟩ | ⟨_, z⟩ | ⟨_, _, z⟩ <;> rw [z] <;> simp
    have lw2 : ws2.length ≤ 1000000 := by rw [aw23.len]; omega
    -- the top statement
    refine ⟨_, rfl, _, rfl, _, rfl, by show 1 ≤ sizeLine; decide, fun q1 nq1 => ?_⟩
    have q24 : Kp [] H23 (upd H23 q1 (.tup [.ref lo2])) := Kp.new nq1
    have e24 : upd H23 q1 (.tup [.ref lo2]) q1 = some (.tup [.ref lo2]) := upd_same
    generalize upd H23 q1 (.tup [.ref lo2]) = H24 at q24 e24 ⊢
    refine catA_in (q24.tp _ _ hpa23) e24 (by show _ + 1 ≤ sizeLine; omega) fun p3 H25 q25 hp3 => ?_
    have q2325 := q24.trans q25
    have sO25 : Sm_ H25 (.ref p3) (o.st lone2) := sm_of hp3 (ImAll.kp q2325 ay23) (bd_of (q2325.tp _ _ hlo23) (aw23.imp fun _ _ h => h.kp q2325) lw2)
    have k1023 : Kp [b] H10 H23 := k11.trans k1123
    have hoA23 := k1023.at_ _ _ hoA10 (by simpa using oAb)
    have io23 := ImAll.kp k1023 io10
    have lops : ops.length ≤ 4 := by omega
    refine ⟨_, rfl, _, rfl, _, rfl, oA, p3, .ref ya, os, ops, kk, sd, o.st lone2, y, rfl, q2325.at_ _ _ hoA23 (fun z => nomatch z), ImAll.kp q2325 io23, by omega, sO25, sy23.kp q2325, fun wa ta pt H26 k26 hwa sT hpt => ?_⟩
    refine ⟨wa, _, rfl, SqT.of hwa, rfl, _, _, rfl, _, _, rfl, rfl, ?_⟩
    have q2326 := q2325.trans k26
    have E26 := E23.kp0 q2326
    -- the statement that fills
    refine ⟨_, rfl, _, rfl, by show 0 ≤ sizeLine; decide, fun r1 nr1 => ?_⟩
    have q30 : Kp [] H26 (upd H26 r1 (.lst [])) := Kp.new nr1
    have hr1 : upd H26 r1 (.lst []) r1 = some (.lst []) := upd_same
    have rb1 := (E26.bg.new nr1).1
    have E30 := E26.kp0 q30
    generalize upd H26 r1 (.lst []) = H30 at q30 hr1 E30 ⊢
    refine ⟨_, rfl, l, _, 0, .ref a0, rfl, rfl, SqL.of E30.hl, atI_nat (k := 0) hv0, by show 0 ≤ sizeLine; decide, fun r2 nr2 => ?_⟩
    have q31 : Kp [] H30 (upd H30 r2 (.lst [])) := Kp.new nr2
    have hr2 : upd H30 r2 (.lst []) r2 = some (.lst []) := upd_same
    have rb2 := (E30.bg.new nr2).1
    have E31 := E30.kp0 q31
    have hr1' := q31.at_ _ _ hr1 (fun z => nomatch z)
    generalize upd H30 r2 (.lst []) = H31 at q31 hr2 E31 hr1' ⊢
    have q2331 := (q2326.trans q30).trans q31
    have k731 : Kp [b] H7 H31 := (k710.trans k1023).trans q2331.zero
    refine ⟨b, c, t, r1, a0, r2, xs, [], [], tbs, [], [], b0, rfl, E31.bg, E31.ht, tb, E31.ix, g, hr1', rb1, .nil, (fun x h => nomatch h), by decide, Im.kp k731 ib0, gb0, hr2, rb2, .nil, (fun x h => nomatch h), by decide, fun tv0 d0 s0 n0 u0 H32 BG32 k32 id0 _ se0 ns0 n06 => ?_⟩
    have sm0 : Sm_ H32 (.ref tv0) s0 := ⟨21, se0.2 ▸ id0⟩
    have E32 := E31.bag k32 BG32
    refine ⟨by show 5 ≤ sizeLine; decide, fun lp nlp => ?_⟩
    have q27 : Kp [] H32 (upd H32 lp (.tup loops5)) := Kp.new nlp
    have hlp27 : upd H32 lp (.tup loops5) lp = some (.tup loops5) := upd_same
    have E27 := E32.kp0 q27
    show C8.tCut _ _ _ _ (upd H32 lp (.tup loops5))
    generalize upd H32 lp (.tup loops5) = H27 at q27 hlp27 E27 ⊢
    have k2627 : Kp [b] H26 H27 := ((q30.trans q31).zero.trans k32).trans q27.zero
    have k2327 : Kp [b] H23 H27 := q2326.zero.trans k2627
    have sm027 := sm0.kp q27
    have sT27 := sT.kp k2627
    have hpt27 := k2627.tp _ _ hpt
    have hpa27 := k2327.tp _ _ hpa23
    have ay27 := ImAll.kp k2327 ay23
    have hpi27 := k2327.tp _ _ (q1723.tp _ _ hpi17)
    have ai27 := ImAll.kp k2327 (ImAll.kp q1723 ai17)
    have bdi27 := (bdi17.kp q1723).kp k2327
    have sy27 := sy23.kp k2327
    have hoA27 := k2327.at_ _ _ hoA23 (by simpa using oAb)
    have io27 := ImAll.kp k2327 io23
    have D : D76 tbs bs b0 b1 b2 ops sc e1 e2 o oi s y := ⟨E27.bok, eb0, eb1, eb2, ogs, lops, oo, oi', hs, ⟨yts, yadds, hy.symm, lpY⟩⟩
    have mdT : Md tbs bs b0 (wr y kk sd 0 (o.st lone2) [] ops.reverse).1 := by
      rcases cc with ⟨c1, z⟩ | ⟨c2, z⟩ | ⟨c1, c2, z⟩
      · rcases ck with ⟨_, rfl⟩ | ⟨n1, _⟩
        · exact D.two (.inl z)
        · exact absurd c1 n1
      · rcases ck with ⟨_, rfl⟩ | ⟨_, n2, _⟩
        · exact D.two (.inr z)
        · exact absurd c2 n2
      · rcases ck with ⟨c, _⟩ | ⟨_, _, rfl⟩
        · rcases c with c | c
          · exact absurd c c1
          · exact absurd c c2
        · rw [z]; exact D.lone at00
    obtain ⟨h0, p0, z0, d0'⟩ := ns0.rt (List.mem_of_getElem? eb0)
    have po' : ProgOk 8 tbs bs [s0, (wr y kk sd 0 (o.st lone2) [] ops.reverse).1] := D.prog h0 p0 (by omega) (by omega) mdT
    refine ⟨fun σ H' => ∃ (vd : V) (o21 : Option V), σ = [some (.ref a), some (.ref b), some (.int cr), some (.int kk), some (.int (if sd then 1 else 0)), some (.ref t), some (.ref l), some (.ref oA), some (.ref sA), some (.ref pa), some (.ref sm), some (.ref pi), some (.ref sw), some (.ref inA), some (.ref ya), some (.ref lo2), some (.ref ta), some (.ref pt), some (.ref tv0), some (.ref lp), some vd, o21, none, none, none] ∧ Kp [] H27 H' ∧ ((vd = .non ∧ turnNo o oi lone2 = true) ∨ ∃ (du : Addr) (duo : List V), vd = .ref du ∧ turnNo o oi lone2 = false ∧ lone2 = [oi.st [s]] ∧ H' du = some (.lst duo) ∧ A2 (Sm_ H') duo [s0, (wr y kk sd 0 (oi.st [o.st [s]]) [] ops.reverse).1] ∧ ProgOk 8 tbs bs [s0, (wr y kk sd 0 (oi.st [o.st [s]]) [] ops.reverse).1] ∧ turnNo oi o [o.st [s]] = false), ?_, ?_⟩
    · refine ⟨_, rfl, by show 2 ≤ sizeLine; decide, fun p2 np2 => ?_⟩
      have q34 : Kp [] H27 (upd H27 p2 (.tup [.int 1, .int 2])) := Kp.new np2
      refine ⟨p2, _, rfl, .inr (SqT.of upd_same), rfl, rfl, _, rfl, ?_⟩
      generalize upd H27 p2 (.tup [.int 1, .int 2]) = H34 at q34 ⊢
      by_cases c12 : cr = 1 ∨ cr = 2
      · have l2' : 1 < lone2.length := by rcases cc with ⟨_, z⟩ | ⟨_, z⟩ | ⟨z1, z2, _⟩ <;> first | (rw [z]; simp; done) | (exact absurd c12 (by rintro (h | h); exact z1 h; exact z2 h))
        exact iteFs (by show (!inV _ _) = false; rw [inq, decide_eq_true c12]; rfl) (iteF ⟨.non, none, rfl, q34, .inl ⟨rfl, by unfold turnNo; rw [decide_eq_true l2']; simp⟩⟩)
      · have e2' : lone2 = [oi.st [s]] := by
          rcases cc with ⟨z, _⟩ | ⟨z, _⟩ | ⟨_, _, z⟩
          · exact absurd (.inl z) c12
          · exact absurd (.inr z) c12
          · exact z
        have kk0 : 0 ≤ kk := by
          rcases ck with ⟨z, _⟩ | ⟨_, _, rfl⟩
          · exact absurd z c12
          · exact at00
        subst e2'
        refine iteTs (by show (!inV _ _) = true; rw [inq, decide_eq_false c12]; rfl) ?_
        have hpa34 := q34.tp _ _ hpa27
        have ay34 := ImAll.kp q34 ay27
        have hpi34 := q34.tp _ _ hpi27
        have ai34 := ImAll.kp q34 ai27
        have hlp34 := q34.tp _ _ hlp27
        have bdi34 := bdi27.kp q34
        refine ⟨_, rfl, pa, _, 0, .str o.word, rfl, rfl, SqT.of hpa34, og_word0 ay34, _, rfl, lp, loops5, rfl, .inr (SqT.of hlp34), rfl, rfl, _, rfl, ?_⟩
        cases el : o.isLoop with
        | false => exact iteFs (by show inV _ _ = false; rw [Og.word_loop, el]) (iteF ⟨.non, none, rfl, q34, .inl ⟨rfl, by unfold turnNo; rw [el]; rfl⟩⟩)
        | true =>
          refine iteTs (by show inV _ _ = true; rw [Og.word_loop, el]) ?_
          refine ⟨_, rfl, pi, _, 0, .str oi.word, rfl, rfl, SqT.of hpi34, og_word0 ai34, _, rfl, lp, loops5, rfl, .inr (SqT.of hlp34), rfl, rfl, _, rfl, ?_⟩
          cases ei : oi.isLoop with
          | false => exact iteFs (by show inV _ _ = false; rw [Og.word_loop, ei]) ⟨.non, none, rfl, q34, .inl ⟨rfl, by unfold turnNo; rw [ei]; simp⟩⟩
          | true =>
            refine iteTs (by show inV _ _ = true; rw [Og.word_loop, ei]) ?_
            refine ⟨_, rfl, pi, _, 0, .str oi.word, rfl, rfl, SqT.of hpi34, og_word0 ai34, rfl, _, rfl, ?_⟩
            rcases oi.seek_or with ⟨v, tt, f1, tm, eoi⟩ | ⟨nw, na⟩
            · refine iteFs (by rw [eoi]; rfl) ?_
              obtain ⟨mx, va, e4, iva⟩ : ∃ mx va, atI iys 4 = some va ∧ Im H34 mx va (dTm tm) := by
                have iw := ai34
                rw [eoi] at iw
                obtain ⟨v1, w1, rfl, _, g1⟩ := iw.consI
                obtain ⟨v2, w2, rfl, _, g2⟩ := g1.consI
                obtain ⟨v3, w3, rfl, _, g3⟩ := g2.consI
                obtain ⟨v4, w4, rfl, _, g4⟩ := g3.consI
                obtain ⟨v5, w5, rfl, h5, _⟩ := g4.consI
                exact ⟨_, v5, atI_nat (k := 4) rfl, h5⟩
              refine ⟨_, rfl, pi, _, 4, va, rfl, rfl, SqT.of hpi34, e4, _, rfl, pa, _, 1, .str o.v, rfl, rfl, SqT.of hpa34, og_var0 (o.loop_same el) ay34, va, tm, o.v, _, rfl, iva, _, rfl, ?_⟩
              cases ea : tmIs tm o.v with
              | true => exact iteFs (by rfl) ⟨.non, none, rfl, q34, .inl ⟨rfl, by unfold turnNo; rw [show oi.asks o.v = true by rw [eoi]; exact ea]; simp⟩⟩
              | false =>
                have ea : oi.asks o.v = false := by rw [eoi]; exact ea
                refine iteTs (by rfl) ?_
                have nn : turnNo o oi [oi.st [s]] = false := by unfold turnNo; rw [el, ei, ea]; rfl
                obtain ⟨mdU, nb⟩ := D.turned kk0 (sd := sd) nn
                refine ⟨_, rfl, _, rfl, _, rfl, by show 1 ≤ sizeLine; decide, fun u1 nu1 => ?_⟩
                have q35 : Kp [] H34 (upd H34 u1 (.tup [.ref inA])) := Kp.new nu1
                have e35 : upd H34 u1 (.tup [.ref inA]) u1 = some (.tup [.ref inA]) := upd_same
                generalize upd H34 u1 (.tup [.ref inA]) = H35 at q35 e35 ⊢
                refine catA_in (q35.tp _ _ hpa34) e35 (by show _ + 1 ≤ sizeLine; omega) fun u2 H36 q36 hu2 => ?_
                have q3436 := q35.trans q36
                have sO : Sm_ H36 (.ref u2) (o.st [s]) := sm_of hu2 (ImAll.kp q3436 ay34) (bdi34.kp q3436)
                refine ⟨by show 1 ≤ sizeLine; decide, fun u3 nu3 => ⟨by show 1 ≤ sizeLine; decide, fun u4 nu4 => ?_⟩⟩
                have q37 : Kp [] H36 (upd H36 u3 (.tup [.ref u2])) := Kp.new nu3
                have e37 : upd H36 u3 (.tup [.ref u2]) u3 = some (.tup [.ref u2]) := upd_same
                generalize upd H36 u3 (.tup [.ref u2]) = H37 at q37 e37 nu4 ⊢
                have q38 : Kp [] H37 (upd H37 u4 (.tup [.ref u3])) := Kp.new nu4
                have e38 : upd H37 u4 (.tup [.ref u3]) u4 = some (.tup [.ref u3]) := upd_same
                generalize upd H37 u4 (.tup [.ref u3]) = H38 at q38 e38 ⊢
                have q3438 := (q3436.trans q37).trans q38
                refine catA_in (q3438.tp _ _ hpi34) e38 (by show _ + 1 ≤ sizeLine; omega) fun u5 H39 q39 hu5 => ?_
                have q3439 := q3438.trans q39
                have q3639 := (q37.trans q38).trans q39
                have sU : Sm_ H39 (.ref u5) (oi.st [o.st [s]]) := sm_of hu5 (ImAll.kp q3439 ai34) (bd_of ((q38.trans q39).tp _ _ e37) (.cons (sO.kp q3639) .nil) (by simp))
                have q2739 := q34.trans q3439
                refine ⟨_, rfl, _, rfl, _, rfl, _, rfl, _, rfl, _, rfl, oA, u5, .ref ya, os, ops, kk, sd, oi.st [o.st [s]], y, rfl, q2739.at_ _ _ hoA27 (fun z => nomatch z), ImAll.kp q2739 io27, by omega, sU, sy27.kp q2739, fun wa2 ta2 pt2 H40 k40 hwa2 sT2 _ => ?_⟩
                refine ⟨wa2, _, 0, .ref ta2, rfl, rfl, SqT.of hwa2, atI_nat (k := 0) rfl, by show 2 ≤ sizeLine; decide, fun l3 nl3 => ?_⟩
                have q41 : Kp [] H40 (upd H40 l3 (.lst [.ref tv0, .ref ta2])) := Kp.new nl3
                have q2741 := (q2739.trans k40).trans q41
                exact ⟨.ref l3, _, rfl, q2741, .inr ⟨l3, _, rfl, nn, rfl, upd_same, .cons (sm027.kp q2741) (.cons (sT2.kp q41) .nil), D.prog h0 p0 (by omega) (by omega) mdU, nb⟩⟩
            · refine iteTs (by rw [decide_eq_false fun z => nw (V.str.inj z)]; rfl) ?_
              have ea := na o.v
              have nn : turnNo o oi [oi.st [s]] = false := by unfold turnNo; rw [el, ei, ea]; rfl
              obtain ⟨mdU, nb⟩ := D.turned kk0 (sd := sd) nn
              refine ⟨_, rfl, _, rfl, _, rfl, by show 1 ≤ sizeLine; decide, fun u1 nu1 => ?_⟩
              have q35 : Kp [] H34 (upd H34 u1 (.tup [.ref inA])) := Kp.new nu1
              have e35 : upd H34 u1 (.tup [.ref inA]) u1 = some (.tup [.ref inA]) := upd_same
              generalize upd H34 u1 (.tup [.ref inA]) = H35 at q35 e35 ⊢
              refine catA_in (q35.tp _ _ hpa34) e35 (by show _ + 1 ≤ sizeLine; omega) fun u2 H36 q36 hu2 => ?_
              have q3436 := q35.trans q36
              have sO : Sm_ H36 (.ref u2) (o.st [s]) := sm_of hu2 (ImAll.kp q3436 ay34) (bdi34.kp q3436)
              refine ⟨by show 1 ≤ sizeLine; decide, fun u3 nu3 => ⟨by show 1 ≤ sizeLine; decide, fun u4 nu4 => ?_⟩⟩
              have q37 : Kp [] H36 (upd H36 u3 (.tup [.ref u2])) := Kp.new nu3
              have e37 : upd H36 u3 (.tup [.ref u2]) u3 = some (.tup [.ref u2]) := upd_same
              generalize upd H36 u3 (.tup [.ref u2]) = H37 at q37 e37 nu4 ⊢
              have q38 : Kp [] H37 (upd H37 u4 (.tup [.ref u3])) := Kp.new nu4
              have e38 : upd H37 u4 (.tup [.ref u3]) u4 = some (.tup [.ref u3]) := upd_same
              generalize upd H37 u4 (.tup [.ref u3]) = H38 at q38 e38 ⊢
              have q3438 := (q3436.trans q37).trans q38
              refine catA_in (q3438.tp _ _ hpi34) e38 (by show _ + 1 ≤ sizeLine; omega) fun u5 H39 q39 hu5 => ?_
              have q3439 := q3438.trans q39
              have q3639 := (q37.trans q38).trans q39
              have sU : Sm_ H39 (.ref u5) (oi.st [o.st [s]]) := sm_of hu5 (ImAll.kp q3439 ai34) (bd_of ((q38.trans q39).tp _ _ e37) (.cons (sO.kp q3639) .nil) (by simp))
              have q2739 := q34.trans q3439
              refine ⟨_, rfl, _, rfl, _, rfl, _, rfl, _, rfl, _, rfl, oA, u5, .ref ya, os, ops, kk, sd, oi.st [o.st [s]], y, rfl, q2739.at_ _ _ hoA27 (fun z => nomatch z), ImAll.kp q2739 io27, by omega, sU, sy27.kp q2739, fun wa2 ta2 pt2 H40 k40 hwa2 sT2 _ => ?_⟩
              refine ⟨wa2, _, 0, .ref ta2, rfl, rfl, SqT.of hwa2, atI_nat (k := 0) rfl, by show 2 ≤ sizeLine; decide, fun l3 nl3 => ?_⟩
              have q41 : Kp [] H40 (upd H40 l3 (.lst [.ref tv0, .ref ta2])) := Kp.new nl3
              have q2741 := (q2739.trans k40).trans q41
              exact ⟨.ref l3, _, rfl, q2741, .inr ⟨l3, _, rfl, nn, rfl, upd_same, .cons (sm027.kp q2741) (.cons (sT2.kp q41) .nil), D.prog h0 p0 (by omega) (by omega) mdU, nb⟩⟩
    rintro σ H43 ⟨vd, o21, rfl, k43, hvd⟩
    have E43 := E27.kp0 k43
    -- the body
    refine ⟨_, rfl, _, rfl, by show 2 ≤ sizeLine; decide, fun bB nbB => ?_⟩
    have q46 := Kp.new (ms := []) (o := .lst [V.ref tv0, .ref ta]) nbB
    have e46 : upd H43 bB (.lst [.ref tv0, .ref ta]) bB = some (.lst [.ref tv0, .ref ta]) := upd_same
    generalize upd H43 bB (.lst [.ref tv0, .ref ta]) = H46 at q46 e46 ⊢
    have q2746 := k43.trans q46
    have E46 := E43.kp0 q46
    have aB46 : A2 (Sm_ H46) [V.ref tv0, .ref ta] [s0, (wr y kk sd 0 (o.st lone2) [] ops.reverse).1] := .cons (sm027.kp q2746) (.cons (sT27.kp q2746) .nil)
    have hpt46 := q2746.tp _ _ hpt27
    have lxs : xs.length = tbs.length := by rw [ix.len, List.length_map]
    have lys : ys.length = bs.length := by rw [iy.len, List.length_map]
    refine ⟨_, rfl, t, xs, rfl, .inl (SqL.of E46.ht), fun c1 nc1 => ?_⟩
    have q47 := Kp.new (ms := []) (o := .lst xs) nc1
    have e47 : upd H46 c1 (.lst xs) c1 = some (.lst xs) := upd_same
    have E47 := E46.kp0 q47
    generalize upd H46 c1 (.lst xs) = H47 at q47 e47 E47 ⊢
    have dsh : Dt (fun _ => True) false H47 3 (.ref c1) (.list (tbs.map dTab)) := .lst (.inl e47) ⟨by rw [lxs]; have := g.2.2.2; omega, trivial⟩ (E47.ix.imp fun _ _ => trivial).weak
    refine fun sh dxs nsh ndxs nes => shape_mk nsh ndxs nes dsh (shp_list g) fun H48 k48 SA48 => ?_
    have E48 := E47.kp0 k48
    refine ⟨_, rfl, l, ys, rfl, .inl (SqL.of E48.hl), fun c2 nc2 => ?_⟩
    have q49 := Kp.new (ms := []) (o := .lst ys) nc2
    have e49 : upd H48 c2 (.lst ys) c2 = some (.lst ys) := upd_same
    generalize upd H48 c2 (.lst ys) = H49 at q49 e49 ⊢
    have q4649 := (q47.trans k48).trans q49
    have hB49 := q4649.at_ _ _ e46 (fun z => nomatch z)
    refine ⟨_, rfl, bB, _, rfl, .inl (SqL.of hB49), fun c3 nc3 => ?_⟩
    have q50 := Kp.new (ms := []) (o := .lst [V.ref tv0, .ref ta]) nc3
    have e50 : upd H49 c3 (.lst [.ref tv0, .ref ta]) c3 = some (.lst [.ref tv0, .ref ta]) := upd_same
    generalize upd H49 c3 (.lst [.ref tv0, .ref ta]) = H50 at q50 e50 ⊢
    have q4650 := q4649.trans q50
    have E50 := E46.kp0 q4650
    obtain ⟨m, iB50⟩ := sm_all (aB46.imp fun _ _ h => h.kp q4650)
    have dbk : Dt (fun _ => True) false H50 (max 3 (m + 1)) (.ref c2) (.list (bs.map dBlk)) := (Dt.lst (.inl (q50.at_ _ _ e49 (fun z => nomatch z))) ⟨by omega, trivial⟩ ((E50.iy.imp fun _ _ => trivial).weak)).mono (Nat.le_max_left _ _)
    have dbo : Dt (fun _ => True) false H50 (max 3 (m + 1)) (.ref c3) (.list ([s0, (wr y kk sd 0 (o.st lone2) [] ops.reverse).1].map dSt)) := (Dt.lst (.inl e50) ⟨by simp, trivial⟩ ((iB50.imp fun _ _ => trivial).weak)).mono (Nat.le_max_right _ _)
    refine fun pp dxp npp nxp nep => prog_mk npp nxp nep (SA48.kp (q49.trans q50) (fun z => nomatch z)) g dbk (.inl rfl) (A2.mapL fun x hx => blkD_self (E50.gb x hx)) dbo (.inl rfl) (by rw [← dSts_map]; exact stds_self _) po' fun H51 k51 PA51 => ?_
    have q4651 := q4650.trans k51
    -- the move
    refine ⟨by show 1 ≤ sizeLine; decide, fun m1 nm1 => ⟨_, rfl, ?_⟩⟩
    have q52 := Kp.new (ms := []) (o := .tup [V.int 1]) nm1
    have e52 : upd H51 m1 (.tup [V.int 1]) m1 = some (.tup [V.int 1]) := upd_same
    generalize upd H51 m1 (.tup [V.int 1]) = H52 at q52 e52 ⊢
    have lpt : (wr y kk sd 0 (o.st lone2) [] ops.reverse).2.length = ops.length := by rw [wr_len, List.length_reverse]; simp
    refine catA_in e52 ((q4651.trans q52).tp _ _ hpt46) (by rw [List.length_map, lpt]; show 1 + _ ≤ 16777216; omega) fun m2 H53 q53 hm2 => ?_
    refine ⟨by show 2 ≤ sizeLine; decide, fun mv nmv => ?_⟩
    have q54 := Kp.new (ms := []) (o := .tup [.str "turn", .ref m2]) nmv
    have e54 : upd H53 mv (.tup [.str "turn", .ref m2]) mv = some (.tup [.str "turn", .ref m2]) := upd_same
    generalize upd H53 mv (.tup [.str "turn", .ref m2]) = H54 at q54 e54 ⊢
    have q5154 := (q52.trans q53).trans q54
    have q4654 := q4651.trans q5154
    have q4354 := q46.trans q4654
    have hm254 : H54 m2 = some (.tup ((1 :: (wr y kk sd 0 (o.st lone2) [] ops.reverse).2).map fun i => V.int (i : Nat))) := q54.tp _ _ hm2
    have E54 := E46.kp0 q4654
    have aB54 := aB46.imp fun _ _ h => h.kp q4654
    have hB54 := q4654.at_ _ _ e46 (fun z => nomatch z)
    have PA54 := PA51.kpN q5154
    have l10 : (1 :: (wr y kk sd 0 (o.st lone2) [] ops.reverse).2).length ≤ 10 := by rw [List.length_cons, lpt]; omega
    have lone1 : ¬ 1 < lone2.length → lone2 = [oi.st [s]] := fun h => by rcases cc with ⟨_, z⟩ | ⟨_, z⟩ | ⟨_, _, z⟩ <;> first | exact z | (rw [z] at h; simp at h)
    refine ⟨_, rfl, _, rfl, _, rfl, _, rfl, _, rfl, _, rfl, _, rfl, ?_⟩
    dsimp only [tNil]
    rcases hvd with ⟨rfl, hno⟩ | ⟨du, duo, rfl, nn, e2', hdu, adu, poU, nb⟩
    · refine ⟨pp, t, l, bB, mv, sh, .non, xs, ys, _, tbs, bs, _, none, rfl, PA54, E54.ht, E54.ix, E54.hl, E54.iy, hB54, aB54, g, po', ⟨m2, lone2, [s], _, o, oi, e54, hm254, by simp, l10, at_76, lone1, .inl ⟨hno, rfl⟩⟩, .inl ⟨rfl, rfl⟩, fun H' k' => ⟨_, rfl, iteFs (by rfl) ?_⟩⟩
      exact ⟨_, rfl, rfl, _, rfl, iteTs (by simp) (k _)⟩
    · subst e2'
      have hdu54 := q4354.at_ _ _ hdu (fun z => nomatch z)
      have adu54 := adu.imp fun _ _ h => Sm_.kp q4354 h
      refine ⟨pp, t, l, bB, mv, sh, .ref du, xs, ys, _, tbs, bs, _, some _, rfl, PA54, E54.ht, E54.ix, E54.hl, E54.iy, hB54, aB54, g, po', ⟨m2, _, [s], _, o, oi, e54, hm254, by simp, l10, at_76, lone1, .inr ⟨nn, _, rp_76, rfl⟩⟩, .inr ⟨du, duo, _, rfl, rfl, hdu54, adu54, poU⟩, fun H55 k55 => ⟨_, rfl, iteFs (by rfl) ?_⟩⟩
      refine ⟨_, rfl, rfl, _, rfl, iteFs (by simp) ?_⟩
      have E55 := E54.kp0 k55
      have pre55 : PreT H55 mv [s0, (wr y kk sd 0 (o.st [oi.st [s]]) [] ops.reverse).1] (some [s0, (wr y kk sd 0 (oi.st [o.st [s]]) [] ops.reverse).1]) := ⟨m2, _, [s], _, o, oi, k55.tp _ _ e54, k55.tp _ _ hm254, by simp, l10, at_76, (fun _ => rfl), .inr ⟨nn, _, rp_76, rfl⟩⟩
      refine ⟨_, rfl, _, rfl, ?_⟩
      refine ⟨pp, mv, sh, tbs, bs, _, some _, rfl, PA54.kpN k55, g, pre55, (fun h => nomatch h), fun bd' hbd' => ?_⟩
      cases hbd'
      refine ⟨poU, fun p2 H56 k56 PA56 => ?_⟩
      have k5456 := k55.trans k56
      have E56 := E54.kp0 k5456
      refine ⟨_, rfl, _, rfl, _, rfl, _, rfl, _, rfl, _, rfl, ?_⟩
      dsimp only [tNil]
      exact ⟨p2, t, l, du, mv, sh, .ref bB, xs, ys, duo, tbs, bs, _, some _, rfl, PA56, E56.ht, E56.ix, E56.hl, E56.iy, k5456.at_ _ _ hdu54 (fun z => nomatch z), adu54.imp fun _ _ h => h.kp k5456, g, poU, ⟨m2, _, [s], 1 :: (wr y kk sd 0 (oi.st [o.st [s]]) [] ops.reverse).2, oi, o, k5456.tp _ _ e54, by rw [wr_path (st' := o.st [oi.st [s]])]; exact k5456.tp _ _ hm254, by simp, by rw [wr_path (st' := o.st [oi.st [s]])]; exact l10, at_76, (fun _ => rfl), .inr ⟨nb, _, rp_76, rfl⟩⟩, .inr ⟨bB, _, _, rfl, rfl, k5456.at_ _ _ hB54 (fun z => nomatch z), aB54.imp fun _ _ h => h.kp k5456, po'⟩, fun H' _ => k H'⟩
end
end Fm

namespace Fm
open PySem
/-! ### smaller proofs: a goal behind a name; several witnesses and facts at once -/
@[elab_as_elim] theorem len_0 {α : Type} {P : List α → Prop} (h : P []) (us : List α) (hl : us.length = 0) : P us := match us, hl with
  | [], _ => h 
@[elab_as_elim] theorem len_1 {α : Type} {P : List α → Prop} (h : ∀ x0 : α, P [x0]) (us : List α) (hl : us.length = 1) : P us := match us, hl with
  | [x0], _ => h x0
@[elab_as_elim] theorem len_2 {α : Type} {P : List α → Prop} (h : ∀ x0 x1 : α, P [x0, x1]) (us : List α) (hl : us.length = 2) : P us := match us, hl with
  | [x0, x1], _ => h x0 x1
@[elab_as_elim] theorem len_3 {α : Type} {P : List α → Prop} (h : ∀ x0 x1 x2 : α, P [x0, x1, x2]) (us : List α) (hl : us.length = 3) : P us := match us, hl with
  | [x0, x1, x2], _ => h x0 x1 x2
@[elab_as_elim] theorem len_4 {α : Type} {P : List α → Prop} (h : ∀ x0 x1 x2 x3 : α, P [x0, x1, x2, x3]) (us : List α) (hl : us.length = 4) : P us := match us, hl with
  | [x0, x1, x2, x3], _ => h x0 x1 x2 x3
@[elab_as_elim] theorem len_5 {α : Type} {P : List α → Prop} (h : ∀ x0 x1 x2 x3 x4 : α, P [x0, x1, x2, x3, x4]) (us : List α) (hl : us.length = 5) : P us := match us, hl with
  | [x0, x1, x2, x3, x4], _ => h x0 x1 x2 x3 x4
@[elab_as_elim] theorem len_6 {α : Type} {P : List α → Prop} (h : ∀ x0 x1 x2 x3 x4 x5 : α, P [x0, x1, x2, x3, x4, x5]) (us : List α) (hl : us.length = 6) : P us := match us, hl with
  | [x0, x1, x2, x3, x4, x5], _ => h x0 x1 x2 x3 x4 x5
@[elab_as_elim] theorem len_7 {α : Type} {P : List α → Prop} (h : ∀ x0 x1 x2 x3 x4 x5 x6 : α, P [x0, x1, x2, x3, x4, x5, x6]) (us : List α) (hl : us.length = 7) : P us := match us, hl with
  | [x0, x1, x2, x3, x4, x5, x6], _ => h x0 x1 x2 x3 x4 x5 x6
@[elab_as_elim] theorem len_8 {α : Type} {P : List α → Prop} (h : ∀ x0 x1 x2 x3 x4 x5 x6 x7 : α, P [x0, x1, x2, x3, x4, x5, x6, x7]) (us : List α) (hl : us.length = 8) : P us := match us, hl with
  | [x0, x1, x2, x3, x4, x5, x6, x7], _ => h x0 x1 x2 x3 x4 x5 x6 x7
@[elab_as_elim] theorem len_9 {α : Type} {P : List α → Prop} (h : ∀ x0 x1 x2 x3 x4 x5 x6 x7 x8 : α, P [x0, x1, x2, x3, x4, x5, x6, x7, x8]) (us : List α) (hl : us.length = 9) : P us := match us, hl with
  | [x0, x1, x2, x3, x4, x5, x6, x7, x8], _ => h x0 x1 x2 x3 x4 x5 x6 x7 x8
end Fm

namespace Fm
end Fm

/-! the head by one kernel run, for a law that makes lambdas too: the tables stand in the Hook's part of the heap -/
namespace Fm
open PySem PySem.W PySem.Calls PyProof.Rows
def tabsF (ts : List Addr) : PySem.W.Frag := ts.map fun P => (P, PySem.W.tabObj #[])
theorem tabs_ek {K : Params → PySem.W.Frag} {as ts : List Addr} (e : ∀ P, as = (K P).map (·.1)) (P : Params) : as ++ ts = (K P ++ tabsF ts).map (·.1) := by
  have h : ts = (tabsF ts).map (·.1) := by
    unfold tabsF
    rw [List.map_map]
    exact (List.map_id ts).symm
  rw [List.map_append, ← e P, ← h]
theorem lookup_app {K L : PySem.W.Frag} {a : Addr} : (K ++ L).lookup a = (K.lookup a).or (L.lookup a) := by
  induction K with
  | nil => rfl
  | cons p r ih =>
    obtain ⟨b, o⟩ := p
    show (match a == b with | true => some o | false => (r ++ L).lookup a) = (match a == b with | true => some o | false => r.lookup a : Option Obj).or (L.lookup a)
    cases a == b with
    | true => rfl
    | false => exact ih
theorem head_in {K : Params → PySem.W.Frag} {as ts : List Addr} {e : ∀ P, as ++ ts = (K P ++ tabsF ts).map (·.1)} {w : World} {h : Heap} (Y : (PySem.W.kHook (fun P => K P ++ tabsF ts) (as ++ ts) e).says w h) : (K w.params).In h := by
  intro a o z
  exact (PySem.W.kIn_of Y) a o (by show (K w.params ++ tabsF ts).lookup a = some o; rw [lookup_app, z]; rfl)
end Fm
namespace Fm
open PySem PySem.W PySem.Calls PyProof.Rows
/-- the head by one kernel run for each answer of a row of the world -/
theorem head_rows {r : OpenRow} {q : Program} {K : Params → PySem.W.Frag} {as ts : List Addr} {M : Nat} {loose : List PySem.Str} {d : DefRec} {kwd : List (PySem.Str × PySem.Expr)} (ek : ∀ P, as = (K P).map (·.1)) (row : String)
    (e : opening r.prog = plainProg r.prog.main.scope.names) (f : ∀ s, fenceModules? r.prog s = some s)
    (rf : ∀ w : World, HeadRun.RunEq r q (PySem.W.kHook (fun P => K P ++ tabsF ts) (as ++ ts) (tabs_ek ek)) (fun s => (as ++ ts).map (HeadRun.getT s)) M loose (w.withFollow row false))
    (rt : ∀ w : World, HeadRun.RunEq r q (PySem.W.kHook (fun P => K P ++ tabsF ts) (as ++ ts) (tabs_ek ek)) (fun s => (as ++ ts).map (HeadRun.getT s)) M loose (w.withFollow row true))
    (hdef : defOf q r.name = some (d, kwd)) (hp : r.prog.theDef r.name = some (d.params, d.body, d.scope)) (hk : kwWritten? d.params.kwonlyargs d.params.kw_defaults = some kwd)
    (hwr : (!r.writes || r.records.isEmpty) = true) (k1 : r.wellSaid = true) (ok : (chainsOk q && opensWell r.prog && (frees r.toRowW && r.within.isEmpty)) = true) (hb : r.prog.bare) (hw : r.toRowW.promised)
    (call : WalkO q loose (XL q []) (PySem.W.kHook (fun P => K P ++ tabsF ts) (as ++ ts) (tabs_ek ek)).says r.toRowW d kwd fun f vs => PySem.call f vs) : r.Holds :=
  HeadRun.head_any (H := PySem.W.kHook (fun P => K P ++ tabsF ts) (as ++ ts) (tabs_ek ek)) (ob := fun s => (as ++ ts).map (HeadRun.getT s)) (fun s => List.map_congr_left fun a _ => HeadRun.getT_eq s a) e f
    (fun w => byRow2 row (P := fun w => HeadRun.RunEq r q (PySem.W.kHook (fun P => K P ++ tabsF ts) (as ++ ts) (tabs_ek ek)) (fun s => (as ++ ts).map (HeadRun.getT s)) M loose w) rf rt w) hdef hp hk hwr k1 ok hb hw call
end Fm

namespace Fm
open PySem PySem.W PyProof.Rows
abbrev hdR : OpenRow := OpenLaw.row PySem.Challenge.rw_firstmet_k76_turn
abbrev hdV : Program := view hdR.prog [80]
def hdLoose : List PySem.Str := (["_wall", "MetError", "BadShape", "BadStore", "BadBlock", "BadProgram", "BadMove", "LETTERS", "MOST_VALUE", "is_row", "is_integer", "is_value", "is_name", "are_names", "is_table", "Shape", "PARTS", "MOST_BLOCKS", "MOST_TOPS", "MOST_BODY", "MOST_DEEP", "MOST_STATEMENTS", "MOST_MULTIPLE", "has_form", "is_block", "Checker", "kept_adds", "kept_statement", "kept_blocks", "Program"] : List PySem.Str) ++ (["renamed", "same_rows", "fuse_two", "LOOPS", "SUM_NAMES", "is_index", "statement_at", "replaced", "names", "body_out", "body_turn", "body_seek", "body_scan", "body_fuse", "puts_within", "terms_within", "factors_of", "summed", "with_sums", "after_hold", "top_body", "after_move", "moved", "_law_bag", "_law_pick", "_law_name", "_law_value", "_law_tables", "_law_blocks", "_law_term"] : List PySem.Str) ++ (["_law_product", "_law_put", "_law_opening", "_law_top", "_law_branch", "_law_open", "_law_around", "_law_idle_put", "_law_wrapped", "_law_after", "_law_is_program", "_law_leads", "_law_of", "_law_loop"] : List PySem.Str)
local macro_rules
  | `(tactic| o_head ($f $k $a $e)) => `(tactic| (assumption))
  | `(tactic| o_head ($f $k $a $e $t)) => `(tactic| (assumption))
set_option maxHeartbeats 0 in
theorem kh (h : hdR.Holds) : hdR.Holds := by k_head
/-- their addresses; the tables of the lambdas -/
def hdAs : List Addr := [2, 3, 15, 17, 18, 20, 21, 22, 29, 30, 31, 32, 35, 42, 44, 45, 47, 48, 49, 50, 51, 54, 61, 63, 64, 66, 67, 68, 69, 70, 73, 80, 82, 83, 85, 86, 87, 88, 89, 92,
    99, 101, 102, 104, 105, 106, 107, 108, 111, 118, 120, 121, 123, 124, 125, 126, 127, 130, 132, 133, 135, 136, 137, 139, 140, 142, 143, 144, 146, 147, 149, 150, 151, 153, 154, 156, 157, 158, 160, 161,
    163, 164, 165, 167, 168, 170, 171, 179, 181, 182, 184, 185, 186, 188, 189, 191, 192, 193, 195, 196, 198, 199, 200, 201, 202, 203, 204, 207, 208, 210, 211, 213, 214, 215, 217, 218, 220, 221, 229, 232,
    233, 234, 236, 237, 239, 240, 241, 243, 244, 246, 247, 248, 250, 251, 253, 254, 255, 257, 258, 260, 261, 262, 264, 265, 267, 268, 269, 271, 272, 274, 275, 276, 278, 279, 281, 282, 283, 285, 286, 288,
    289, 290, 293, 294, 295, 296, 297, 298, 299, 302, 305, 306, 307, 310, 311, 312, 315, 316, 324, 327, 328, 329, 331, 332, 334, 335, 336, 337, 338, 339, 340, 343, 346, 347, 348, 350, 351, 353, 354, 355,
    357, 358, 360, 361, 362, 363, 364, 366, 367, 369, 370, 371, 373, 374, 376, 377, 378, 380, 381, 383, 384, 385, 387, 388, 390, 391, 392, 394, 395, 397, 398, 399, 401, 402, 404, 405, 406, 408, 409, 411,
    412, 413, 415, 416, 418, 419, 420, 422, 423, 425, 426, 427, 429, 430, 432, 433, 434, 436, 437, 439, 440, 441, 444, 445, 446, 449, 450, 451, 454, 455, 456, 459, 460, 461, 463, 464, 466, 467, 468, 470,
    471, 473, 474, 475, 477, 478, 480, 481, 482, 484, 485, 487, 488, 489, 491, 492, 494, 495, 496, 499, 500, 501, 503, 504, 506, 507, 508, 510, 511, 513, 514, 515, 518, 519, 520, 522, 523, 525, 526, 527,
    529, 530, 532, 533, 534, 537, 538, 539, 542, 543, 544, 547, 548, 549, 551, 552, 554, 555, 556, 559, 560, 561, 563, 564, 566, 567, 568, 571, 572, 573, 575, 576, 578, 579, 580, 582, 583, 585, 586, 587,
    589, 590, 592, 593, 594, 596, 597, 599, 600, 601, 603, 604, 606, 607, 608, 610, 611, 613, 614, 615, 617, 618, 620, 621]
def hdTs : List Addr := []
set_option maxHeartbeats 0 in
theorem hd_ek (P : Params) : hdAs = (kh.heap_1 P).map (·.1) := by kernel_rfl
noncomputable abbrev hdH : Hook := kHook (fun P => kh.heap_1 P ++ tabsF hdTs) (hdAs ++ hdTs) (tabs_ek hd_ek)
set_option maxHeartbeats 0 in
theorem hd_rf (w : World) : HeadRun.RunEq hdR hdV hdH (fun s => (hdAs ++ hdTs).map (HeadRun.getT s)) 20000 hdLoose (w.withFollow "special-get-raises" false) := by
  intro os
  kernel_rfl
set_option maxHeartbeats 0 in
theorem hd_rt (w : World) : HeadRun.RunEq hdR hdV hdH (fun s => (hdAs ++ hdTs).map (HeadRun.getT s)) 20000 hdLoose (w.withFollow "special-get-raises" true) := by
  intro os
  kernel_rfl

set_option maxHeartbeats 0 in
theorem hd_open (k1 : hdR.wellSaid = true) (hw : hdR.toRowW.promised) (call : WalkO hdV hdLoose (XL hdV []) hdH.says hdR.toRowW (HandSHeadRun.topDef hdR.prog 80) [] fun f vs => PySem.call f vs) : hdR.Holds := by
  refine head_rows (r := hdR) (q := hdV) (K := kh.heap_1) (as := hdAs) (ts := hdTs) (M := 20000) (loose := hdLoose) (d := HandSHeadRun.topDef hdR.prog 80) (kwd := []) hd_ek "special-get-raises" (by kernel_rfl) (fun s => by kernel_rfl) hd_rf hd_rt (by kernel_rfl) (by kernel_rfl) (by kernel_rfl) (by rfl) k1 (by decide +kernel) ⟨rfl, rfl, rfl, rfl, rfl, by decide +kernel⟩ hw call
end Fm

namespace Fm
open PySem PySem.Spec PyProof.Rows L2
theorem ok_BadShape_init {P : Program} {w : World} {K : PySem.W.Frag} {mg : Str → Option Value} {base : Heap} {f C : Addr} {fd : FuncData} (F : Fun K "__init__" "BadShape.__init__" s_BadShape_init f fd) (ox : OexC K C) (no : PySem.W.findIn K (.ref C) "at" = some none) : FnOk P w K mg base CX0 1 f fd ["self", "at"] (spErr C "at") := by
  refine F.ok sc_BadShape_init (fun vs H Q E h => ?_) (fun cdv A outer s H vs Q E hr h => ⟨_, pss_one (ps_ost (pv 0) (pv 1)), ?_⟩)
  · obtain ⟨a, y, rfl, _⟩ := h; rfl
  · obtain ⟨a, y, rfl, ha, k⟩ := h
    exact ⟨_, rfl, _, rfl, a, C, rfl, ox, no, .inl ⟨ha, fun dx h1 h2 => k dx h1 h2⟩⟩
theorem ok_BadMove_init {P : Program} {w : World} {K : PySem.W.Frag} {mg : Str → Option Value} {base : Heap} {f C : Addr} {fd : FuncData} (F : Fun K "__init__" "BadMove.__init__" s_BadMove_init f fd) (ox : OexC K C) (no : PySem.W.findIn K (.ref C) "value" = some none) : FnOk P w K mg base CX0 1 f fd ["self", "value"] (spErr C "value") := by
  refine F.ok sc_BadMove_init (fun vs H Q E h => ?_) (fun cdv A outer s H vs Q E hr h => ⟨_, pss_one (ps_ost (pv 0) (pv 1)), ?_⟩)
  · obtain ⟨a, y, rfl, _⟩ := h; rfl
  · obtain ⟨a, y, rfl, ha, k⟩ := h
    exact ⟨_, rfl, _, rfl, a, C, rfl, ox, no, .inl ⟨ha, fun dx h1 h2 => k dx h1 h2⟩⟩
theorem all_mk {l : PySem.W.OpenLaw} {w : World} {K : PySem.W.Frag} {h : Heap} {mg : Str → Option Value} {fa : Addr} (X : K.In h) (G : h.Ns mainGlobals mg) (hfa : mg "law" = some (.ref fa))
    {tk_LETTERS : Tok}
    {tk_MOST_VALUE : Tok}
    {tk_MOST_BLOCKS : Tok}
    {tk_MOST_TOPS : Tok}
    {tk_MOST_BODY : Tok}
    {tk_MOST_DEEP : Tok}
    {tk_MOST_STATEMENTS : Tok}
    {tk_MOST_MULTIPLE : Tok}
    {f_is_row : Addr} {od_is_row an_is_row : Option Addr} {sl_is_row : Array (Option Value)} {oc_is_row kV_is_row dc_is_row pm_is_row cd_is_row ct_is_row : Value}
    {f_is_integer : Addr} {od_is_integer an_is_integer : Option Addr} {sl_is_integer : Array (Option Value)} {oc_is_integer kV_is_integer dc_is_integer pm_is_integer cd_is_integer ct_is_integer : Value}
    {f_is_value : Addr} {od_is_value an_is_value : Option Addr} {sl_is_value : Array (Option Value)} {oc_is_value kV_is_value dc_is_value pm_is_value cd_is_value ct_is_value : Value}
    {f_is_name : Addr} {od_is_name an_is_name : Option Addr} {sl_is_name : Array (Option Value)} {oc_is_name kV_is_name dc_is_name pm_is_name cd_is_name ct_is_name : Value}
    {f_are_names : Addr} {od_are_names an_are_names : Option Addr} {sl_are_names : Array (Option Value)} {oc_are_names kV_are_names dc_are_names pm_are_names cd_are_names ct_are_names : Value}
    {f_is_table : Addr} {od_is_table an_is_table : Option Addr} {sl_is_table : Array (Option Value)} {oc_is_table kV_is_table dc_is_table pm_is_table cd_is_table ct_is_table : Value}
    {f_has_form : Addr} {od_has_form an_has_form : Option Addr} {sl_has_form : Array (Option Value)} {oc_has_form kV_has_form dc_has_form pm_has_form cd_has_form ct_has_form : Value}
    {f_is_block : Addr} {od_is_block an_is_block : Option Addr} {sl_is_block : Array (Option Value)} {oc_is_block kV_is_block dc_is_block pm_is_block cd_is_block ct_is_block : Value}
    {f_kept_adds : Addr} {od_kept_adds an_kept_adds : Option Addr} {sl_kept_adds : Array (Option Value)} {oc_kept_adds kV_kept_adds dc_kept_adds pm_kept_adds cd_kept_adds ct_kept_adds : Value}
    {f_kept_statement : Addr} {od_kept_statement an_kept_statement : Option Addr} {sl_kept_statement : Array (Option Value)} {oc_kept_statement kV_kept_statement dc_kept_statement pm_kept_statement cd_kept_statement ct_kept_statement : Value}
    {f_kept_blocks : Addr} {od_kept_blocks an_kept_blocks : Option Addr} {sl_kept_blocks : Array (Option Value)} {oc_kept_blocks kV_kept_blocks dc_kept_blocks pm_kept_blocks cd_kept_blocks ct_kept_blocks : Value}
    {f_law_bag : Addr} {od_law_bag an_law_bag : Option Addr} {sl_law_bag : Array (Option Value)} {oc_law_bag kV_law_bag dc_law_bag pm_law_bag cd_law_bag ct_law_bag : Value}
    {f_law_pick : Addr} {od_law_pick an_law_pick : Option Addr} {sl_law_pick : Array (Option Value)} {oc_law_pick kV_law_pick dc_law_pick pm_law_pick cd_law_pick ct_law_pick : Value}
    {f_law_name : Addr} {od_law_name an_law_name : Option Addr} {sl_law_name : Array (Option Value)} {oc_law_name kV_law_name dc_law_name pm_law_name cd_law_name ct_law_name : Value}
    {f_law_value : Addr} {od_law_value an_law_value : Option Addr} {sl_law_value : Array (Option Value)} {oc_law_value kV_law_value dc_law_value pm_law_value cd_law_value ct_law_value : Value}
    {f_law_tables : Addr} {od_law_tables an_law_tables : Option Addr} {sl_law_tables : Array (Option Value)} {oc_law_tables kV_law_tables dc_law_tables pm_law_tables cd_law_tables ct_law_tables : Value}
    {f_law_blocks : Addr} {od_law_blocks an_law_blocks : Option Addr} {sl_law_blocks : Array (Option Value)} {oc_law_blocks kV_law_blocks dc_law_blocks pm_law_blocks cd_law_blocks ct_law_blocks : Value}
    {f_law_term : Addr} {od_law_term an_law_term : Option Addr} {sl_law_term : Array (Option Value)} {oc_law_term kV_law_term dc_law_term pm_law_term cd_law_term ct_law_term : Value}
    {f_law_product : Addr} {od_law_product an_law_product : Option Addr} {sl_law_product : Array (Option Value)} {oc_law_product kV_law_product dc_law_product pm_law_product cd_law_product ct_law_product : Value}
    {f_law_put : Addr} {od_law_put an_law_put : Option Addr} {sl_law_put : Array (Option Value)} {oc_law_put kV_law_put dc_law_put pm_law_put cd_law_put ct_law_put : Value}
    {f_law_opening : Addr} {od_law_opening an_law_opening : Option Addr} {sl_law_opening : Array (Option Value)} {oc_law_opening kV_law_opening dc_law_opening pm_law_opening cd_law_opening ct_law_opening : Value}
    {f_law_branch : Addr} {od_law_branch an_law_branch : Option Addr} {sl_law_branch : Array (Option Value)} {oc_law_branch kV_law_branch dc_law_branch pm_law_branch cd_law_branch ct_law_branch : Value}
    {f_law_top : Addr} {od_law_top an_law_top : Option Addr} {sl_law_top : Array (Option Value)} {oc_law_top kV_law_top dc_law_top pm_law_top cd_law_top ct_law_top : Value}
    {f_law_open : Addr} {od_law_open an_law_open : Option Addr} {sl_law_open : Array (Option Value)} {oc_law_open kV_law_open dc_law_open pm_law_open cd_law_open ct_law_open : Value}
    {f_law_around : Addr} {od_law_around an_law_around : Option Addr} {sl_law_around : Array (Option Value)} {oc_law_around kV_law_around dc_law_around pm_law_around cd_law_around ct_law_around : Value}
    {f_law_idle_put : Addr} {od_law_idle_put an_law_idle_put : Option Addr} {sl_law_idle_put : Array (Option Value)} {oc_law_idle_put kV_law_idle_put dc_law_idle_put pm_law_idle_put cd_law_idle_put ct_law_idle_put : Value}
    {f_law_wrapped : Addr} {od_law_wrapped an_law_wrapped : Option Addr} {sl_law_wrapped : Array (Option Value)} {oc_law_wrapped kV_law_wrapped dc_law_wrapped pm_law_wrapped cd_law_wrapped ct_law_wrapped : Value}
    {f_law_after : Addr} {od_law_after an_law_after : Option Addr} {sl_law_after : Array (Option Value)} {oc_law_after kV_law_after dc_law_after pm_law_after cd_law_after ct_law_after : Value}
    {f_law_is_program : Addr} {od_law_is_program an_law_is_program : Option Addr} {sl_law_is_program : Array (Option Value)} {oc_law_is_program kV_law_is_program dc_law_is_program pm_law_is_program cd_law_is_program ct_law_is_program : Value}
    {f_law_leads : Addr} {od_law_leads an_law_leads : Option Addr} {sl_law_leads : Array (Option Value)} {oc_law_leads kV_law_leads dc_law_leads pm_law_leads cd_law_leads ct_law_leads : Value}
    {f_is_index : Addr} {od_is_index an_is_index : Option Addr} {sl_is_index : Array (Option Value)} {oc_is_index kV_is_index dc_is_index pm_is_index cd_is_index ct_is_index : Value}
    {f_statement_at : Addr} {od_statement_at an_statement_at : Option Addr} {sl_statement_at : Array (Option Value)} {oc_statement_at kV_statement_at dc_statement_at pm_statement_at cd_statement_at ct_statement_at : Value}
    {f_replaced : Addr} {od_replaced an_replaced : Option Addr} {sl_replaced : Array (Option Value)} {oc_replaced kV_replaced dc_replaced pm_replaced cd_replaced ct_replaced : Value}
    {f_names : Addr} {od_names an_names : Option Addr} {sl_names : Array (Option Value)} {oc_names kV_names dc_names pm_names cd_names ct_names : Value}
    {f_body_out : Addr} {od_body_out an_body_out : Option Addr} {sl_body_out : Array (Option Value)} {oc_body_out kV_body_out dc_body_out pm_body_out cd_body_out ct_body_out : Value}
    {f_body_turn : Addr} {od_body_turn an_body_turn : Option Addr} {sl_body_turn : Array (Option Value)} {oc_body_turn kV_body_turn dc_body_turn pm_body_turn cd_body_turn ct_body_turn : Value}
    {f_body_seek : Addr} {od_body_seek an_body_seek : Option Addr} {sl_body_seek : Array (Option Value)} {oc_body_seek kV_body_seek dc_body_seek pm_body_seek cd_body_seek ct_body_seek : Value}
    {f_body_scan : Addr} {od_body_scan an_body_scan : Option Addr} {sl_body_scan : Array (Option Value)} {oc_body_scan kV_body_scan dc_body_scan pm_body_scan cd_body_scan ct_body_scan : Value}
    {f_top_body : Addr} {od_top_body an_top_body : Option Addr} {sl_top_body : Array (Option Value)} {oc_top_body kV_top_body dc_top_body pm_top_body cd_top_body ct_top_body : Value}
    {f_after_hold : Addr} {od_after_hold an_after_hold : Option Addr} {sl_after_hold : Array (Option Value)} {oc_after_hold kV_after_hold dc_after_hold pm_after_hold cd_after_hold ct_after_hold : Value}
    {f_after_move : Addr} {od_after_move an_after_move : Option Addr} {sl_after_move : Array (Option Value)} {oc_after_move kV_after_move dc_after_move pm_after_move cd_after_move ct_after_move : Value}
    {f_moved : Addr} {od_moved an_moved : Option Addr} {sl_moved : Array (Option Value)} {oc_moved kV_moved dc_moved pm_moved cd_moved ct_moved : Value}
    {f_law_of : Addr} {od_law_of an_law_of : Option Addr} {sl_law_of : Array (Option Value)} {oc_law_of kV_law_of dc_law_of pm_law_of cd_law_of ct_law_of : Value}
    {f_law_loop : Addr} {od_law_loop an_law_loop : Option Addr} {sl_law_loop : Array (Option Value)} {oc_law_loop kV_law_loop dc_law_loop pm_law_loop cd_law_loop ct_law_loop : Value}
    {C_Shape : Addr}
    {f_Shape_init : Addr} {od_Shape_init an_Shape_init : Option Addr} {sl_Shape_init : Array (Option Value)} {oc_Shape_init kV_Shape_init dc_Shape_init pm_Shape_init cd_Shape_init ct_Shape_init : Value}
    {C_Checker : Addr}
    {f_Checker_init : Addr} {od_Checker_init an_Checker_init : Option Addr} {sl_Checker_init : Array (Option Value)} {oc_Checker_init kV_Checker_init dc_Checker_init pm_Checker_init cd_Checker_init ct_Checker_init : Value}
    {f_Checker_first_wrong : Addr} {od_Checker_first_wrong an_Checker_first_wrong : Option Addr} {sl_Checker_first_wrong : Array (Option Value)} {oc_Checker_first_wrong kV_Checker_first_wrong dc_Checker_first_wrong pm_Checker_first_wrong cd_Checker_first_wrong ct_Checker_first_wrong : Value}
    {f_Checker_fits : Addr} {od_Checker_fits an_Checker_fits : Option Addr} {sl_Checker_fits : Array (Option Value)} {oc_Checker_fits kV_Checker_fits dc_Checker_fits pm_Checker_fits cd_Checker_fits ct_Checker_fits : Value}
    {f_Checker_fits_table : Addr} {od_Checker_fits_table an_Checker_fits_table : Option Addr} {sl_Checker_fits_table : Array (Option Value)} {oc_Checker_fits_table kV_Checker_fits_table dc_Checker_fits_table pm_Checker_fits_table cd_Checker_fits_table ct_Checker_fits_table : Value}
    {f_Checker_fits_entry : Addr} {od_Checker_fits_entry an_Checker_fits_entry : Option Addr} {sl_Checker_fits_entry : Array (Option Value)} {oc_Checker_fits_entry kV_Checker_fits_entry dc_Checker_fits_entry pm_Checker_fits_entry cd_Checker_fits_entry ct_Checker_fits_entry : Value}
    {f_Checker_fits_put : Addr} {od_Checker_fits_put an_Checker_fits_put : Option Addr} {sl_Checker_fits_put : Array (Option Value)} {oc_Checker_fits_put kV_Checker_fits_put dc_Checker_fits_put pm_Checker_fits_put cd_Checker_fits_put ct_Checker_fits_put : Value}
    {f_Checker_is_read : Addr} {od_Checker_is_read an_Checker_is_read : Option Addr} {sl_Checker_is_read : Array (Option Value)} {oc_Checker_is_read kV_Checker_is_read dc_Checker_is_read pm_Checker_is_read cd_Checker_is_read ct_Checker_is_read : Value}
    {f_Checker_is_term : Addr} {od_Checker_is_term an_Checker_is_term : Option Addr} {sl_Checker_is_term : Array (Option Value)} {oc_Checker_is_term kV_Checker_is_term dc_Checker_is_term pm_Checker_is_term cd_Checker_is_term ct_Checker_is_term : Value}
    {f_Checker_are_terms : Addr} {od_Checker_are_terms an_Checker_are_terms : Option Addr} {sl_Checker_are_terms : Array (Option Value)} {oc_Checker_are_terms kV_Checker_are_terms dc_Checker_are_terms pm_Checker_are_terms cd_Checker_are_terms ct_Checker_are_terms : Value}
    {f_Checker_is_product : Addr} {od_Checker_is_product an_Checker_is_product : Option Addr} {sl_Checker_is_product : Array (Option Value)} {oc_Checker_is_product kV_Checker_is_product dc_Checker_is_product pm_Checker_is_product cd_Checker_is_product ct_Checker_is_product : Value}
    {C_Program : Addr}
    {f_Program_init : Addr} {od_Program_init an_Program_init : Option Addr} {sl_Program_init : Array (Option Value)} {oc_Program_init kV_Program_init dc_Program_init pm_Program_init cd_Program_init ct_Program_init : Value}
    {C_MetError : Addr}
    {C_BadShape : Addr} {nm_BadShape q_BadShape : Str} {N_BadShape : Addr} {bs_BadShape : List Value} {sn_BadShape : List Str} {sub_BadShape : List Value} {ab_BadShape : Bool} {col_BadShape : Option Bool} {dd_BadShape : Option Addr} {m0_BadShape m1_BadShape m2_BadShape m3_BadShape m5_BadShape : Option Value}
    {f_BadShape_init : Addr} {od_BadShape_init an_BadShape_init : Option Addr} {sl_BadShape_init : Array (Option Value)} {oc_BadShape_init kV_BadShape_init dc_BadShape_init pm_BadShape_init cd_BadShape_init ct_BadShape_init : Value}
    {C_BadMove : Addr} {nm_BadMove q_BadMove : Str} {N_BadMove : Addr} {bs_BadMove : List Value} {sn_BadMove : List Str} {sub_BadMove : List Value} {ab_BadMove : Bool} {col_BadMove : Option Bool} {dd_BadMove : Option Addr} {m0_BadMove m1_BadMove m2_BadMove m3_BadMove m5_BadMove : Option Value}
    {f_BadMove_init : Addr} {od_BadMove_init an_BadMove_init : Option Addr} {sl_BadMove_init : Array (Option Value)} {oc_BadMove_init kV_BadMove_init dc_BadMove_init pm_BadMove_init cd_BadMove_init ct_BadMove_init : Value}
    {d_PARTS : Addr} {es_PARTS : Array DictEntry} {n_PARTS : Nat} {tk_t_scan tk_t_run tk_t_seek tk_t_each tk_t_rise tk_t_look tk_t_same tk_t_put : Tok}
    {d_LOOPS : Addr} {its_LOOPS : Array Value} {n_LOOPS : Nat}
    {f_law : Addr} {od_law an_law : Option Addr} {sl_law : Array (Option Value)} {oc_law kV_law dc_law pm_law cd_law ct_law : Value}
    (z_len : PySem.W.nsIn K mainGlobals "len" = some none)
    (z_list : PySem.W.nsIn K mainGlobals "list" = some none)
    (z_tuple : PySem.W.nsIn K mainGlobals "tuple" = some none)
    (z_isinstance : PySem.W.nsIn K mainGlobals "isinstance" = some none)
    (z_int : PySem.W.nsIn K mainGlobals "int" = some none)
    (z_range : PySem.W.nsIn K mainGlobals "range" = some none)
    (z_max : PySem.W.nsIn K mainGlobals "max" = some none)
    (z_all : PySem.W.nsIn K mainGlobals "all" = some none)
    (z_bool : PySem.W.nsIn K mainGlobals "bool" = some none)
    (z_dict : PySem.W.nsIn K mainGlobals "dict" = some none)
    (z_str : PySem.W.nsIn K mainGlobals "str" = some none)
    (z_enumerate : PySem.W.nsIn K mainGlobals "enumerate" = some none)
    (z_zip : PySem.W.nsIn K mainGlobals "zip" = some none)
    (z_any : PySem.W.nsIn K mainGlobals "any" = some none)
    (z_min : PySem.W.nsIn K mainGlobals "min" = some none)
    (z_reversed : PySem.W.nsIn K mainGlobals "reversed" = some none)
    (n_LETTERS : PySem.W.nsIn K mainGlobals "LETTERS" = some (some (.str abc tk_LETTERS)))
    (n_MOST_VALUE : PySem.W.nsIn K mainGlobals "MOST_VALUE" = some (some (.int 1000000000 tk_MOST_VALUE)))
    (n_MOST_BLOCKS : PySem.W.nsIn K mainGlobals "MOST_BLOCKS" = some (some (.int 6 tk_MOST_BLOCKS)))
    (n_MOST_TOPS : PySem.W.nsIn K mainGlobals "MOST_TOPS" = some (some (.int 12 tk_MOST_TOPS)))
    (n_MOST_BODY : PySem.W.nsIn K mainGlobals "MOST_BODY" = some (some (.int 8 tk_MOST_BODY)))
    (n_MOST_DEEP : PySem.W.nsIn K mainGlobals "MOST_DEEP" = some (some (.int 8 tk_MOST_DEEP)))
    (n_MOST_STATEMENTS : PySem.W.nsIn K mainGlobals "MOST_STATEMENTS" = some (some (.int 40 tk_MOST_STATEMENTS)))
    (n_MOST_MULTIPLE : PySem.W.nsIn K mainGlobals "MOST_MULTIPLE" = some (some (.int 1000 tk_MOST_MULTIPLE)))
    (a_is_row : PySem.W.nsIn K mainGlobals "is_row" = some (some (.ref f_is_row)))
    (l_is_row : K.lookup f_is_row = some ⟨oc_is_row, od_is_row, .func (PySem.W.fnOf "is_row" "is_row" (defArgs s_is_row) (defBody s_is_row) (defScope s_is_row) .none kV_is_row dc_is_row pm_is_row an_is_row cd_is_row ct_is_row), sl_is_row⟩)
    (c_is_row : PySem.W.codeIn K cd_is_row "is_row" = true)
    (k_is_row : PySem.W.keepIn K (.ref f_is_row) = true)
    (a_is_integer : PySem.W.nsIn K mainGlobals "is_integer" = some (some (.ref f_is_integer)))
    (l_is_integer : K.lookup f_is_integer = some ⟨oc_is_integer, od_is_integer, .func (PySem.W.fnOf "is_integer" "is_integer" (defArgs s_is_integer) (defBody s_is_integer) (defScope s_is_integer) .none kV_is_integer dc_is_integer pm_is_integer an_is_integer cd_is_integer ct_is_integer), sl_is_integer⟩)
    (c_is_integer : PySem.W.codeIn K cd_is_integer "is_integer" = true)
    (k_is_integer : PySem.W.keepIn K (.ref f_is_integer) = true)
    (a_is_value : PySem.W.nsIn K mainGlobals "is_value" = some (some (.ref f_is_value)))
    (l_is_value : K.lookup f_is_value = some ⟨oc_is_value, od_is_value, .func (PySem.W.fnOf "is_value" "is_value" (defArgs s_is_value) (defBody s_is_value) (defScope s_is_value) .none kV_is_value dc_is_value pm_is_value an_is_value cd_is_value ct_is_value), sl_is_value⟩)
    (c_is_value : PySem.W.codeIn K cd_is_value "is_value" = true)
    (k_is_value : PySem.W.keepIn K (.ref f_is_value) = true)
    (a_is_name : PySem.W.nsIn K mainGlobals "is_name" = some (some (.ref f_is_name)))
    (l_is_name : K.lookup f_is_name = some ⟨oc_is_name, od_is_name, .func (PySem.W.fnOf "is_name" "is_name" (defArgs s_is_name) (defBody s_is_name) (defScope s_is_name) .none kV_is_name dc_is_name pm_is_name an_is_name cd_is_name ct_is_name), sl_is_name⟩)
    (c_is_name : PySem.W.codeIn K cd_is_name "is_name" = true)
    (k_is_name : PySem.W.keepIn K (.ref f_is_name) = true)
    (a_are_names : PySem.W.nsIn K mainGlobals "are_names" = some (some (.ref f_are_names)))
    (l_are_names : K.lookup f_are_names = some ⟨oc_are_names, od_are_names, .func (PySem.W.fnOf "are_names" "are_names" (defArgs s_are_names) (defBody s_are_names) (defScope s_are_names) .none kV_are_names dc_are_names pm_are_names an_are_names cd_are_names ct_are_names), sl_are_names⟩)
    (c_are_names : PySem.W.codeIn K cd_are_names "are_names" = true)
    (k_are_names : PySem.W.keepIn K (.ref f_are_names) = true)
    (a_is_table : PySem.W.nsIn K mainGlobals "is_table" = some (some (.ref f_is_table)))
    (l_is_table : K.lookup f_is_table = some ⟨oc_is_table, od_is_table, .func (PySem.W.fnOf "is_table" "is_table" (defArgs s_is_table) (defBody s_is_table) (defScope s_is_table) .none kV_is_table dc_is_table pm_is_table an_is_table cd_is_table ct_is_table), sl_is_table⟩)
    (c_is_table : PySem.W.codeIn K cd_is_table "is_table" = true)
    (k_is_table : PySem.W.keepIn K (.ref f_is_table) = true)
    (a_has_form : PySem.W.nsIn K mainGlobals "has_form" = some (some (.ref f_has_form)))
    (l_has_form : K.lookup f_has_form = some ⟨oc_has_form, od_has_form, .func (PySem.W.fnOf "has_form" "has_form" (defArgs s_has_form) (defBody s_has_form) (defScope s_has_form) .none kV_has_form dc_has_form pm_has_form an_has_form cd_has_form ct_has_form), sl_has_form⟩)
    (c_has_form : PySem.W.codeIn K cd_has_form "has_form" = true)
    (k_has_form : PySem.W.keepIn K (.ref f_has_form) = true)
    (a_is_block : PySem.W.nsIn K mainGlobals "is_block" = some (some (.ref f_is_block)))
    (l_is_block : K.lookup f_is_block = some ⟨oc_is_block, od_is_block, .func (PySem.W.fnOf "is_block" "is_block" (defArgs s_is_block) (defBody s_is_block) (defScope s_is_block) .none kV_is_block dc_is_block pm_is_block an_is_block cd_is_block ct_is_block), sl_is_block⟩)
    (c_is_block : PySem.W.codeIn K cd_is_block "is_block" = true)
    (k_is_block : PySem.W.keepIn K (.ref f_is_block) = true)
    (a_kept_adds : PySem.W.nsIn K mainGlobals "kept_adds" = some (some (.ref f_kept_adds)))
    (l_kept_adds : K.lookup f_kept_adds = some ⟨oc_kept_adds, od_kept_adds, .func (PySem.W.fnOf "kept_adds" "kept_adds" (defArgs s_kept_adds) (defBody s_kept_adds) (defScope s_kept_adds) .none kV_kept_adds dc_kept_adds pm_kept_adds an_kept_adds cd_kept_adds ct_kept_adds), sl_kept_adds⟩)
    (c_kept_adds : PySem.W.codeIn K cd_kept_adds "kept_adds" = true)
    (k_kept_adds : PySem.W.keepIn K (.ref f_kept_adds) = true)
    (a_kept_statement : PySem.W.nsIn K mainGlobals "kept_statement" = some (some (.ref f_kept_statement)))
    (l_kept_statement : K.lookup f_kept_statement = some ⟨oc_kept_statement, od_kept_statement, .func (PySem.W.fnOf "kept_statement" "kept_statement" (defArgs s_kept_statement) (defBody s_kept_statement) (defScope s_kept_statement) .none kV_kept_statement dc_kept_statement pm_kept_statement an_kept_statement cd_kept_statement ct_kept_statement), sl_kept_statement⟩)
    (c_kept_statement : PySem.W.codeIn K cd_kept_statement "kept_statement" = true)
    (k_kept_statement : PySem.W.keepIn K (.ref f_kept_statement) = true)
    (a_kept_blocks : PySem.W.nsIn K mainGlobals "kept_blocks" = some (some (.ref f_kept_blocks)))
    (l_kept_blocks : K.lookup f_kept_blocks = some ⟨oc_kept_blocks, od_kept_blocks, .func (PySem.W.fnOf "kept_blocks" "kept_blocks" (defArgs s_kept_blocks) (defBody s_kept_blocks) (defScope s_kept_blocks) .none kV_kept_blocks dc_kept_blocks pm_kept_blocks an_kept_blocks cd_kept_blocks ct_kept_blocks), sl_kept_blocks⟩)
    (c_kept_blocks : PySem.W.codeIn K cd_kept_blocks "kept_blocks" = true)
    (k_kept_blocks : PySem.W.keepIn K (.ref f_kept_blocks) = true)
    (a_law_bag : PySem.W.nsIn K mainGlobals "_law_bag" = some (some (.ref f_law_bag)))
    (l_law_bag : K.lookup f_law_bag = some ⟨oc_law_bag, od_law_bag, .func (PySem.W.fnOf "_law_bag" "_law_bag" (defArgs s__law_bag) (defBody s__law_bag) (defScope s__law_bag) .none kV_law_bag dc_law_bag pm_law_bag an_law_bag cd_law_bag ct_law_bag), sl_law_bag⟩)
    (c_law_bag : PySem.W.codeIn K cd_law_bag "_law_bag" = true)
    (k_law_bag : PySem.W.keepIn K (.ref f_law_bag) = true)
    (a_law_pick : PySem.W.nsIn K mainGlobals "_law_pick" = some (some (.ref f_law_pick)))
    (l_law_pick : K.lookup f_law_pick = some ⟨oc_law_pick, od_law_pick, .func (PySem.W.fnOf "_law_pick" "_law_pick" (defArgs s__law_pick) (defBody s__law_pick) (defScope s__law_pick) .none kV_law_pick dc_law_pick pm_law_pick an_law_pick cd_law_pick ct_law_pick), sl_law_pick⟩)
    (c_law_pick : PySem.W.codeIn K cd_law_pick "_law_pick" = true)
    (k_law_pick : PySem.W.keepIn K (.ref f_law_pick) = true)
    (a_law_name : PySem.W.nsIn K mainGlobals "_law_name" = some (some (.ref f_law_name)))
    (l_law_name : K.lookup f_law_name = some ⟨oc_law_name, od_law_name, .func (PySem.W.fnOf "_law_name" "_law_name" (defArgs s__law_name) (defBody s__law_name) (defScope s__law_name) .none kV_law_name dc_law_name pm_law_name an_law_name cd_law_name ct_law_name), sl_law_name⟩)
    (c_law_name : PySem.W.codeIn K cd_law_name "_law_name" = true)
    (k_law_name : PySem.W.keepIn K (.ref f_law_name) = true)
    (a_law_value : PySem.W.nsIn K mainGlobals "_law_value" = some (some (.ref f_law_value)))
    (l_law_value : K.lookup f_law_value = some ⟨oc_law_value, od_law_value, .func (PySem.W.fnOf "_law_value" "_law_value" (defArgs s__law_value) (defBody s__law_value) (defScope s__law_value) .none kV_law_value dc_law_value pm_law_value an_law_value cd_law_value ct_law_value), sl_law_value⟩)
    (c_law_value : PySem.W.codeIn K cd_law_value "_law_value" = true)
    (k_law_value : PySem.W.keepIn K (.ref f_law_value) = true)
    (a_law_tables : PySem.W.nsIn K mainGlobals "_law_tables" = some (some (.ref f_law_tables)))
    (l_law_tables : K.lookup f_law_tables = some ⟨oc_law_tables, od_law_tables, .func (PySem.W.fnOf "_law_tables" "_law_tables" (defArgs s__law_tables) (defBody s__law_tables) (defScope s__law_tables) .none kV_law_tables dc_law_tables pm_law_tables an_law_tables cd_law_tables ct_law_tables), sl_law_tables⟩)
    (c_law_tables : PySem.W.codeIn K cd_law_tables "_law_tables" = true)
    (k_law_tables : PySem.W.keepIn K (.ref f_law_tables) = true)
    (a_law_blocks : PySem.W.nsIn K mainGlobals "_law_blocks" = some (some (.ref f_law_blocks)))
    (l_law_blocks : K.lookup f_law_blocks = some ⟨oc_law_blocks, od_law_blocks, .func (PySem.W.fnOf "_law_blocks" "_law_blocks" (defArgs s__law_blocks) (defBody s__law_blocks) (defScope s__law_blocks) .none kV_law_blocks dc_law_blocks pm_law_blocks an_law_blocks cd_law_blocks ct_law_blocks), sl_law_blocks⟩)
    (c_law_blocks : PySem.W.codeIn K cd_law_blocks "_law_blocks" = true)
    (k_law_blocks : PySem.W.keepIn K (.ref f_law_blocks) = true)
    (a_law_term : PySem.W.nsIn K mainGlobals "_law_term" = some (some (.ref f_law_term)))
    (l_law_term : K.lookup f_law_term = some ⟨oc_law_term, od_law_term, .func (PySem.W.fnOf "_law_term" "_law_term" (defArgs s__law_term) (defBody s__law_term) (defScope s__law_term) .none kV_law_term dc_law_term pm_law_term an_law_term cd_law_term ct_law_term), sl_law_term⟩)
    (c_law_term : PySem.W.codeIn K cd_law_term "_law_term" = true)
    (k_law_term : PySem.W.keepIn K (.ref f_law_term) = true)
    (a_law_product : PySem.W.nsIn K mainGlobals "_law_product" = some (some (.ref f_law_product)))
    (l_law_product : K.lookup f_law_product = some ⟨oc_law_product, od_law_product, .func (PySem.W.fnOf "_law_product" "_law_product" (defArgs s__law_product) (defBody s__law_product) (defScope s__law_product) .none kV_law_product dc_law_product pm_law_product an_law_product cd_law_product ct_law_product), sl_law_product⟩)
    (c_law_product : PySem.W.codeIn K cd_law_product "_law_product" = true)
    (k_law_product : PySem.W.keepIn K (.ref f_law_product) = true)
    (a_law_put : PySem.W.nsIn K mainGlobals "_law_put" = some (some (.ref f_law_put)))
    (l_law_put : K.lookup f_law_put = some ⟨oc_law_put, od_law_put, .func (PySem.W.fnOf "_law_put" "_law_put" (defArgs s__law_put) (defBody s__law_put) (defScope s__law_put) .none kV_law_put dc_law_put pm_law_put an_law_put cd_law_put ct_law_put), sl_law_put⟩)
    (c_law_put : PySem.W.codeIn K cd_law_put "_law_put" = true)
    (k_law_put : PySem.W.keepIn K (.ref f_law_put) = true)
    (a_law_opening : PySem.W.nsIn K mainGlobals "_law_opening" = some (some (.ref f_law_opening)))
    (l_law_opening : K.lookup f_law_opening = some ⟨oc_law_opening, od_law_opening, .func (PySem.W.fnOf "_law_opening" "_law_opening" (defArgs s__law_opening) (defBody s__law_opening) (defScope s__law_opening) .none kV_law_opening dc_law_opening pm_law_opening an_law_opening cd_law_opening ct_law_opening), sl_law_opening⟩)
    (c_law_opening : PySem.W.codeIn K cd_law_opening "_law_opening" = true)
    (k_law_opening : PySem.W.keepIn K (.ref f_law_opening) = true)
    (a_law_branch : PySem.W.nsIn K mainGlobals "_law_branch" = some (some (.ref f_law_branch)))
    (l_law_branch : K.lookup f_law_branch = some ⟨oc_law_branch, od_law_branch, .func (PySem.W.fnOf "_law_branch" "_law_branch" (defArgs s__law_branch) (defBody s__law_branch) (defScope s__law_branch) .none kV_law_branch dc_law_branch pm_law_branch an_law_branch cd_law_branch ct_law_branch), sl_law_branch⟩)
    (c_law_branch : PySem.W.codeIn K cd_law_branch "_law_branch" = true)
    (k_law_branch : PySem.W.keepIn K (.ref f_law_branch) = true)
    (a_law_top : PySem.W.nsIn K mainGlobals "_law_top" = some (some (.ref f_law_top)))
    (l_law_top : K.lookup f_law_top = some ⟨oc_law_top, od_law_top, .func (PySem.W.fnOf "_law_top" "_law_top" (defArgs s__law_top) (defBody s__law_top) (defScope s__law_top) .none kV_law_top dc_law_top pm_law_top an_law_top cd_law_top ct_law_top), sl_law_top⟩)
    (c_law_top : PySem.W.codeIn K cd_law_top "_law_top" = true)
    (k_law_top : PySem.W.keepIn K (.ref f_law_top) = true)
    (a_law_open : PySem.W.nsIn K mainGlobals "_law_open" = some (some (.ref f_law_open)))
    (l_law_open : K.lookup f_law_open = some ⟨oc_law_open, od_law_open, .func (PySem.W.fnOf "_law_open" "_law_open" (defArgs s__law_open) (defBody s__law_open) (defScope s__law_open) .none kV_law_open dc_law_open pm_law_open an_law_open cd_law_open ct_law_open), sl_law_open⟩)
    (c_law_open : PySem.W.codeIn K cd_law_open "_law_open" = true)
    (k_law_open : PySem.W.keepIn K (.ref f_law_open) = true)
    (a_law_around : PySem.W.nsIn K mainGlobals "_law_around" = some (some (.ref f_law_around)))
    (l_law_around : K.lookup f_law_around = some ⟨oc_law_around, od_law_around, .func (PySem.W.fnOf "_law_around" "_law_around" (defArgs s__law_around) (defBody s__law_around) (defScope s__law_around) .none kV_law_around dc_law_around pm_law_around an_law_around cd_law_around ct_law_around), sl_law_around⟩)
    (c_law_around : PySem.W.codeIn K cd_law_around "_law_around" = true)
    (k_law_around : PySem.W.keepIn K (.ref f_law_around) = true)
    (a_law_idle_put : PySem.W.nsIn K mainGlobals "_law_idle_put" = some (some (.ref f_law_idle_put)))
    (l_law_idle_put : K.lookup f_law_idle_put = some ⟨oc_law_idle_put, od_law_idle_put, .func (PySem.W.fnOf "_law_idle_put" "_law_idle_put" (defArgs s__law_idle_put) (defBody s__law_idle_put) (defScope s__law_idle_put) .none kV_law_idle_put dc_law_idle_put pm_law_idle_put an_law_idle_put cd_law_idle_put ct_law_idle_put), sl_law_idle_put⟩)
    (c_law_idle_put : PySem.W.codeIn K cd_law_idle_put "_law_idle_put" = true)
    (k_law_idle_put : PySem.W.keepIn K (.ref f_law_idle_put) = true)
    (a_law_wrapped : PySem.W.nsIn K mainGlobals "_law_wrapped" = some (some (.ref f_law_wrapped)))
    (l_law_wrapped : K.lookup f_law_wrapped = some ⟨oc_law_wrapped, od_law_wrapped, .func (PySem.W.fnOf "_law_wrapped" "_law_wrapped" (defArgs s__law_wrapped) (defBody s__law_wrapped) (defScope s__law_wrapped) .none kV_law_wrapped dc_law_wrapped pm_law_wrapped an_law_wrapped cd_law_wrapped ct_law_wrapped), sl_law_wrapped⟩)
    (c_law_wrapped : PySem.W.codeIn K cd_law_wrapped "_law_wrapped" = true)
    (k_law_wrapped : PySem.W.keepIn K (.ref f_law_wrapped) = true)
    (a_law_after : PySem.W.nsIn K mainGlobals "_law_after" = some (some (.ref f_law_after)))
    (l_law_after : K.lookup f_law_after = some ⟨oc_law_after, od_law_after, .func (PySem.W.fnOf "_law_after" "_law_after" (defArgs s__law_after) (defBody s__law_after) (defScope s__law_after) .none kV_law_after dc_law_after pm_law_after an_law_after cd_law_after ct_law_after), sl_law_after⟩)
    (c_law_after : PySem.W.codeIn K cd_law_after "_law_after" = true)
    (k_law_after : PySem.W.keepIn K (.ref f_law_after) = true)
    (a_law_is_program : PySem.W.nsIn K mainGlobals "_law_is_program" = some (some (.ref f_law_is_program)))
    (l_law_is_program : K.lookup f_law_is_program = some ⟨oc_law_is_program, od_law_is_program, .func (PySem.W.fnOf "_law_is_program" "_law_is_program" (defArgs s__law_is_program) (defBody s__law_is_program) (defScope s__law_is_program) .none kV_law_is_program dc_law_is_program pm_law_is_program an_law_is_program cd_law_is_program ct_law_is_program), sl_law_is_program⟩)
    (c_law_is_program : PySem.W.codeIn K cd_law_is_program "_law_is_program" = true)
    (k_law_is_program : PySem.W.keepIn K (.ref f_law_is_program) = true)
    (a_law_leads : PySem.W.nsIn K mainGlobals "_law_leads" = some (some (.ref f_law_leads)))
    (l_law_leads : K.lookup f_law_leads = some ⟨oc_law_leads, od_law_leads, .func (PySem.W.fnOf "_law_leads" "_law_leads" (defArgs s__law_leads) (defBody s__law_leads) (defScope s__law_leads) .none kV_law_leads dc_law_leads pm_law_leads an_law_leads cd_law_leads ct_law_leads), sl_law_leads⟩)
    (c_law_leads : PySem.W.codeIn K cd_law_leads "_law_leads" = true)
    (k_law_leads : PySem.W.keepIn K (.ref f_law_leads) = true)
    (a_is_index : PySem.W.nsIn K mainGlobals "is_index" = some (some (.ref f_is_index)))
    (l_is_index : K.lookup f_is_index = some ⟨oc_is_index, od_is_index, .func (PySem.W.fnOf "is_index" "is_index" (defArgs s_is_index) (defBody s_is_index) (defScope s_is_index) .none kV_is_index dc_is_index pm_is_index an_is_index cd_is_index ct_is_index), sl_is_index⟩)
    (c_is_index : PySem.W.codeIn K cd_is_index "is_index" = true)
    (k_is_index : PySem.W.keepIn K (.ref f_is_index) = true)
    (a_statement_at : PySem.W.nsIn K mainGlobals "statement_at" = some (some (.ref f_statement_at)))
    (l_statement_at : K.lookup f_statement_at = some ⟨oc_statement_at, od_statement_at, .func (PySem.W.fnOf "statement_at" "statement_at" (defArgs s_statement_at) (defBody s_statement_at) (defScope s_statement_at) .none kV_statement_at dc_statement_at pm_statement_at an_statement_at cd_statement_at ct_statement_at), sl_statement_at⟩)
    (c_statement_at : PySem.W.codeIn K cd_statement_at "statement_at" = true)
    (k_statement_at : PySem.W.keepIn K (.ref f_statement_at) = true)
    (a_replaced : PySem.W.nsIn K mainGlobals "replaced" = some (some (.ref f_replaced)))
    (l_replaced : K.lookup f_replaced = some ⟨oc_replaced, od_replaced, .func (PySem.W.fnOf "replaced" "replaced" (defArgs s_replaced) (defBody s_replaced) (defScope s_replaced) .none kV_replaced dc_replaced pm_replaced an_replaced cd_replaced ct_replaced), sl_replaced⟩)
    (c_replaced : PySem.W.codeIn K cd_replaced "replaced" = true)
    (k_replaced : PySem.W.keepIn K (.ref f_replaced) = true)
    (a_names : PySem.W.nsIn K mainGlobals "names" = some (some (.ref f_names)))
    (l_names : K.lookup f_names = some ⟨oc_names, od_names, .func (PySem.W.fnOf "names" "names" (defArgs s_names) (defBody s_names) (defScope s_names) .none kV_names dc_names pm_names an_names cd_names ct_names), sl_names⟩)
    (c_names : PySem.W.codeIn K cd_names "names" = true)
    (k_names : PySem.W.keepIn K (.ref f_names) = true)
    (a_body_out : PySem.W.nsIn K mainGlobals "body_out" = some (some (.ref f_body_out)))
    (l_body_out : K.lookup f_body_out = some ⟨oc_body_out, od_body_out, .func (PySem.W.fnOf "body_out" "body_out" (defArgs s_body_out) (defBody s_body_out) (defScope s_body_out) .none kV_body_out dc_body_out pm_body_out an_body_out cd_body_out ct_body_out), sl_body_out⟩)
    (c_body_out : PySem.W.codeIn K cd_body_out "body_out" = true)
    (k_body_out : PySem.W.keepIn K (.ref f_body_out) = true)
    (a_body_turn : PySem.W.nsIn K mainGlobals "body_turn" = some (some (.ref f_body_turn)))
    (l_body_turn : K.lookup f_body_turn = some ⟨oc_body_turn, od_body_turn, .func (PySem.W.fnOf "body_turn" "body_turn" (defArgs s_body_turn) (defBody s_body_turn) (defScope s_body_turn) .none kV_body_turn dc_body_turn pm_body_turn an_body_turn cd_body_turn ct_body_turn), sl_body_turn⟩)
    (c_body_turn : PySem.W.codeIn K cd_body_turn "body_turn" = true)
    (k_body_turn : PySem.W.keepIn K (.ref f_body_turn) = true)
    (a_body_seek : PySem.W.nsIn K mainGlobals "body_seek" = some (some (.ref f_body_seek)))
    (l_body_seek : K.lookup f_body_seek = some ⟨oc_body_seek, od_body_seek, .func (PySem.W.fnOf "body_seek" "body_seek" (defArgs s_body_seek) (defBody s_body_seek) (defScope s_body_seek) .none kV_body_seek dc_body_seek pm_body_seek an_body_seek cd_body_seek ct_body_seek), sl_body_seek⟩)
    (c_body_seek : PySem.W.codeIn K cd_body_seek "body_seek" = true)
    (k_body_seek : PySem.W.keepIn K (.ref f_body_seek) = true)
    (a_body_scan : PySem.W.nsIn K mainGlobals "body_scan" = some (some (.ref f_body_scan)))
    (l_body_scan : K.lookup f_body_scan = some ⟨oc_body_scan, od_body_scan, .func (PySem.W.fnOf "body_scan" "body_scan" (defArgs s_body_scan) (defBody s_body_scan) (defScope s_body_scan) .none kV_body_scan dc_body_scan pm_body_scan an_body_scan cd_body_scan ct_body_scan), sl_body_scan⟩)
    (c_body_scan : PySem.W.codeIn K cd_body_scan "body_scan" = true)
    (k_body_scan : PySem.W.keepIn K (.ref f_body_scan) = true)
    (a_top_body : PySem.W.nsIn K mainGlobals "top_body" = some (some (.ref f_top_body)))
    (l_top_body : K.lookup f_top_body = some ⟨oc_top_body, od_top_body, .func (PySem.W.fnOf "top_body" "top_body" (defArgs s_top_body) (defBody s_top_body) (defScope s_top_body) .none kV_top_body dc_top_body pm_top_body an_top_body cd_top_body ct_top_body), sl_top_body⟩)
    (c_top_body : PySem.W.codeIn K cd_top_body "top_body" = true)
    (k_top_body : PySem.W.keepIn K (.ref f_top_body) = true)
    (a_after_hold : PySem.W.nsIn K mainGlobals "after_hold" = some (some (.ref f_after_hold)))
    (l_after_hold : K.lookup f_after_hold = some ⟨oc_after_hold, od_after_hold, .func (PySem.W.fnOf "after_hold" "after_hold" (defArgs s_after_hold) (defBody s_after_hold) (defScope s_after_hold) .none kV_after_hold dc_after_hold pm_after_hold an_after_hold cd_after_hold ct_after_hold), sl_after_hold⟩)
    (c_after_hold : PySem.W.codeIn K cd_after_hold "after_hold" = true)
    (k_after_hold : PySem.W.keepIn K (.ref f_after_hold) = true)
    (a_after_move : PySem.W.nsIn K mainGlobals "after_move" = some (some (.ref f_after_move)))
    (l_after_move : K.lookup f_after_move = some ⟨oc_after_move, od_after_move, .func (PySem.W.fnOf "after_move" "after_move" (defArgs s_after_move) (defBody s_after_move) (defScope s_after_move) .none kV_after_move dc_after_move pm_after_move an_after_move cd_after_move ct_after_move), sl_after_move⟩)
    (c_after_move : PySem.W.codeIn K cd_after_move "after_move" = true)
    (k_after_move : PySem.W.keepIn K (.ref f_after_move) = true)
    (a_moved : PySem.W.nsIn K mainGlobals "moved" = some (some (.ref f_moved)))
    (l_moved : K.lookup f_moved = some ⟨oc_moved, od_moved, .func (PySem.W.fnOf "moved" "moved" (defArgs s_moved) (defBody s_moved) (defScope s_moved) .none kV_moved dc_moved pm_moved an_moved cd_moved ct_moved), sl_moved⟩)
    (c_moved : PySem.W.codeIn K cd_moved "moved" = true)
    (k_moved : PySem.W.keepIn K (.ref f_moved) = true)
    (a_law_of : PySem.W.nsIn K mainGlobals "_law_of" = some (some (.ref f_law_of)))
    (l_law_of : K.lookup f_law_of = some ⟨oc_law_of, od_law_of, .func (PySem.W.fnOf "_law_of" "_law_of" (defArgs s__law_of) (defBody s__law_of) (defScope s__law_of) .none kV_law_of dc_law_of pm_law_of an_law_of cd_law_of ct_law_of), sl_law_of⟩)
    (c_law_of : PySem.W.codeIn K cd_law_of "_law_of" = true)
    (k_law_of : PySem.W.keepIn K (.ref f_law_of) = true)
    (a_law_loop : PySem.W.nsIn K mainGlobals "_law_loop" = some (some (.ref f_law_loop)))
    (l_law_loop : K.lookup f_law_loop = some ⟨oc_law_loop, od_law_loop, .func (PySem.W.fnOf "_law_loop" "_law_loop" (defArgs s__law_loop) (defBody s__law_loop) (defScope s__law_loop) .none kV_law_loop dc_law_loop pm_law_loop an_law_loop cd_law_loop ct_law_loop), sl_law_loop⟩)
    (c_law_loop : PySem.W.codeIn K cd_law_loop "_law_loop" = true)
    (k_law_loop : PySem.W.keepIn K (.ref f_law_loop) = true)
    (m_Shape : PySem.W.nsIn K mainGlobals "Shape" = some (some (.ref C_Shape)))
    (a_Shape_init : PySem.W.findIn K (.ref C_Shape) "__init__" = some (some (.ref f_Shape_init)))
    (l_Shape_init : K.lookup f_Shape_init = some ⟨oc_Shape_init, od_Shape_init, .func (PySem.W.fnOf "__init__" "Shape.__init__" (defArgs s_Shape_init) (defBody s_Shape_init) (defScope s_Shape_init) .none kV_Shape_init dc_Shape_init pm_Shape_init an_Shape_init cd_Shape_init ct_Shape_init), sl_Shape_init⟩)
    (c_Shape_init : PySem.W.codeIn K cd_Shape_init "Shape.__init__" = true)
    (k_Shape_init : PySem.W.keepIn K (.ref f_Shape_init) = true)
    (i_Shape_init : PySem.W.isFn K (.ref f_Shape_init) = true)
    (pg_Shape : PySem.W.plainGet K C_Shape Str.empty = true)
    (hd_Shape : PySem.W.hasDictIn K C_Shape = true)
    (po_Shape : PySem.W.plainOver K C_Shape = true)
    (sa_Shape : PySem.W.findIn K (.ref C_Shape) "__setattr__" = some (some (.builtin "object.__setattr__")))
    (mk_Shape : PySem.W.makesIn K C_Shape = true)
    (kc_Shape : PySem.W.keepIn K (.ref C_Shape) = true)
    (na_Shape_tables : PySem.W.findIn K (.ref C_Shape) "tables" = some none)
    (ha_Shape : PySem.W.findIn K (.ref C_Shape) "__class__" = some (some (.builtin "object.__class__")))
    (hn_Shape : PySem.W.specialIn K (.builtin "object.__class__") "__get__" = some (some (.builtin "getset_descriptor.__get__")))
    (ht_Shape : PySem.W.takesIn K (.builtin "object.__class__") = some true)
    (hm_Shape : PySem.W.mroIn K C_Shape (.type "object") = some true)
    (ne_Shape : PySem.W.findIn K (.ref C_Shape) "__ne__" = some (some (.builtin "object.__ne__")))
    (ob_Shape : PySem.W.subIn K (.ref C_Shape) (.type "object") = some true)
    (kt_Shape_NoneType : PySem.W.kitOne K (.type "NoneType") (.ref C_Shape) = some false)
    (nf_Shape_NoneType : PySem.W.notFirst K C_Shape (.type "NoneType") = true)
    (kt_Shape_bool : PySem.W.kitOne K (.type "bool") (.ref C_Shape) = some false)
    (nf_Shape_bool : PySem.W.notFirst K C_Shape (.type "bool") = true)
    (kt_Shape_int : PySem.W.kitOne K (.type "int") (.ref C_Shape) = some false)
    (nf_Shape_int : PySem.W.notFirst K C_Shape (.type "int") = true)
    (kt_Shape_str : PySem.W.kitOne K (.type "str") (.ref C_Shape) = some false)
    (nf_Shape_str : PySem.W.notFirst K C_Shape (.type "str") = true)
    (kt_Shape_list : PySem.W.kitOne K (.type "list") (.ref C_Shape) = some false)
    (nf_Shape_list : PySem.W.notFirst K C_Shape (.type "list") = true)
    (kt_Shape_tuple : PySem.W.kitOne K (.type "tuple") (.ref C_Shape) = some false)
    (nf_Shape_tuple : PySem.W.notFirst K C_Shape (.type "tuple") = true)
    (kt_Shape_dict : PySem.W.kitOne K (.type "dict") (.ref C_Shape) = some false)
    (nf_Shape_dict : PySem.W.notFirst K C_Shape (.type "dict") = true)
    (m_Checker : PySem.W.nsIn K mainGlobals "Checker" = some (some (.ref C_Checker)))
    (a_Checker_init : PySem.W.findIn K (.ref C_Checker) "__init__" = some (some (.ref f_Checker_init)))
    (l_Checker_init : K.lookup f_Checker_init = some ⟨oc_Checker_init, od_Checker_init, .func (PySem.W.fnOf "__init__" "Checker.__init__" (defArgs s_Checker_init) (defBody s_Checker_init) (defScope s_Checker_init) .none kV_Checker_init dc_Checker_init pm_Checker_init an_Checker_init cd_Checker_init ct_Checker_init), sl_Checker_init⟩)
    (c_Checker_init : PySem.W.codeIn K cd_Checker_init "Checker.__init__" = true)
    (k_Checker_init : PySem.W.keepIn K (.ref f_Checker_init) = true)
    (i_Checker_init : PySem.W.isFn K (.ref f_Checker_init) = true)
    (a_Checker_first_wrong : PySem.W.findIn K (.ref C_Checker) "first_wrong" = some (some (.ref f_Checker_first_wrong)))
    (l_Checker_first_wrong : K.lookup f_Checker_first_wrong = some ⟨oc_Checker_first_wrong, od_Checker_first_wrong, .func (PySem.W.fnOf "first_wrong" "Checker.first_wrong" (defArgs s_Checker_first_wrong) (defBody s_Checker_first_wrong) (defScope s_Checker_first_wrong) .none kV_Checker_first_wrong dc_Checker_first_wrong pm_Checker_first_wrong an_Checker_first_wrong cd_Checker_first_wrong ct_Checker_first_wrong), sl_Checker_first_wrong⟩)
    (c_Checker_first_wrong : PySem.W.codeIn K cd_Checker_first_wrong "Checker.first_wrong" = true)
    (k_Checker_first_wrong : PySem.W.keepIn K (.ref f_Checker_first_wrong) = true)
    (i_Checker_first_wrong : PySem.W.isFn K (.ref f_Checker_first_wrong) = true)
    (a_Checker_fits : PySem.W.findIn K (.ref C_Checker) "fits" = some (some (.ref f_Checker_fits)))
    (l_Checker_fits : K.lookup f_Checker_fits = some ⟨oc_Checker_fits, od_Checker_fits, .func (PySem.W.fnOf "fits" "Checker.fits" (defArgs s_Checker_fits) (defBody s_Checker_fits) (defScope s_Checker_fits) .none kV_Checker_fits dc_Checker_fits pm_Checker_fits an_Checker_fits cd_Checker_fits ct_Checker_fits), sl_Checker_fits⟩)
    (c_Checker_fits : PySem.W.codeIn K cd_Checker_fits "Checker.fits" = true)
    (k_Checker_fits : PySem.W.keepIn K (.ref f_Checker_fits) = true)
    (i_Checker_fits : PySem.W.isFn K (.ref f_Checker_fits) = true)
    (a_Checker_fits_table : PySem.W.findIn K (.ref C_Checker) "fits_table" = some (some (.ref f_Checker_fits_table)))
    (l_Checker_fits_table : K.lookup f_Checker_fits_table = some ⟨oc_Checker_fits_table, od_Checker_fits_table, .func (PySem.W.fnOf "fits_table" "Checker.fits_table" (defArgs s_Checker_fits_table) (defBody s_Checker_fits_table) (defScope s_Checker_fits_table) .none kV_Checker_fits_table dc_Checker_fits_table pm_Checker_fits_table an_Checker_fits_table cd_Checker_fits_table ct_Checker_fits_table), sl_Checker_fits_table⟩)
    (c_Checker_fits_table : PySem.W.codeIn K cd_Checker_fits_table "Checker.fits_table" = true)
    (k_Checker_fits_table : PySem.W.keepIn K (.ref f_Checker_fits_table) = true)
    (i_Checker_fits_table : PySem.W.isFn K (.ref f_Checker_fits_table) = true)
    (a_Checker_fits_entry : PySem.W.findIn K (.ref C_Checker) "fits_entry" = some (some (.ref f_Checker_fits_entry)))
    (l_Checker_fits_entry : K.lookup f_Checker_fits_entry = some ⟨oc_Checker_fits_entry, od_Checker_fits_entry, .func (PySem.W.fnOf "fits_entry" "Checker.fits_entry" (defArgs s_Checker_fits_entry) (defBody s_Checker_fits_entry) (defScope s_Checker_fits_entry) .none kV_Checker_fits_entry dc_Checker_fits_entry pm_Checker_fits_entry an_Checker_fits_entry cd_Checker_fits_entry ct_Checker_fits_entry), sl_Checker_fits_entry⟩)
    (c_Checker_fits_entry : PySem.W.codeIn K cd_Checker_fits_entry "Checker.fits_entry" = true)
    (k_Checker_fits_entry : PySem.W.keepIn K (.ref f_Checker_fits_entry) = true)
    (i_Checker_fits_entry : PySem.W.isFn K (.ref f_Checker_fits_entry) = true)
    (a_Checker_fits_put : PySem.W.findIn K (.ref C_Checker) "fits_put" = some (some (.ref f_Checker_fits_put)))
    (l_Checker_fits_put : K.lookup f_Checker_fits_put = some ⟨oc_Checker_fits_put, od_Checker_fits_put, .func (PySem.W.fnOf "fits_put" "Checker.fits_put" (defArgs s_Checker_fits_put) (defBody s_Checker_fits_put) (defScope s_Checker_fits_put) .none kV_Checker_fits_put dc_Checker_fits_put pm_Checker_fits_put an_Checker_fits_put cd_Checker_fits_put ct_Checker_fits_put), sl_Checker_fits_put⟩)
    (c_Checker_fits_put : PySem.W.codeIn K cd_Checker_fits_put "Checker.fits_put" = true)
    (k_Checker_fits_put : PySem.W.keepIn K (.ref f_Checker_fits_put) = true)
    (i_Checker_fits_put : PySem.W.isFn K (.ref f_Checker_fits_put) = true)
    (a_Checker_is_read : PySem.W.findIn K (.ref C_Checker) "is_read" = some (some (.ref f_Checker_is_read)))
    (l_Checker_is_read : K.lookup f_Checker_is_read = some ⟨oc_Checker_is_read, od_Checker_is_read, .func (PySem.W.fnOf "is_read" "Checker.is_read" (defArgs s_Checker_is_read) (defBody s_Checker_is_read) (defScope s_Checker_is_read) .none kV_Checker_is_read dc_Checker_is_read pm_Checker_is_read an_Checker_is_read cd_Checker_is_read ct_Checker_is_read), sl_Checker_is_read⟩)
    (c_Checker_is_read : PySem.W.codeIn K cd_Checker_is_read "Checker.is_read" = true)
    (k_Checker_is_read : PySem.W.keepIn K (.ref f_Checker_is_read) = true)
    (i_Checker_is_read : PySem.W.isFn K (.ref f_Checker_is_read) = true)
    (a_Checker_is_term : PySem.W.findIn K (.ref C_Checker) "is_term" = some (some (.ref f_Checker_is_term)))
    (l_Checker_is_term : K.lookup f_Checker_is_term = some ⟨oc_Checker_is_term, od_Checker_is_term, .func (PySem.W.fnOf "is_term" "Checker.is_term" (defArgs s_Checker_is_term) (defBody s_Checker_is_term) (defScope s_Checker_is_term) .none kV_Checker_is_term dc_Checker_is_term pm_Checker_is_term an_Checker_is_term cd_Checker_is_term ct_Checker_is_term), sl_Checker_is_term⟩)
    (c_Checker_is_term : PySem.W.codeIn K cd_Checker_is_term "Checker.is_term" = true)
    (k_Checker_is_term : PySem.W.keepIn K (.ref f_Checker_is_term) = true)
    (i_Checker_is_term : PySem.W.isFn K (.ref f_Checker_is_term) = true)
    (a_Checker_are_terms : PySem.W.findIn K (.ref C_Checker) "are_terms" = some (some (.ref f_Checker_are_terms)))
    (l_Checker_are_terms : K.lookup f_Checker_are_terms = some ⟨oc_Checker_are_terms, od_Checker_are_terms, .func (PySem.W.fnOf "are_terms" "Checker.are_terms" (defArgs s_Checker_are_terms) (defBody s_Checker_are_terms) (defScope s_Checker_are_terms) .none kV_Checker_are_terms dc_Checker_are_terms pm_Checker_are_terms an_Checker_are_terms cd_Checker_are_terms ct_Checker_are_terms), sl_Checker_are_terms⟩)
    (c_Checker_are_terms : PySem.W.codeIn K cd_Checker_are_terms "Checker.are_terms" = true)
    (k_Checker_are_terms : PySem.W.keepIn K (.ref f_Checker_are_terms) = true)
    (i_Checker_are_terms : PySem.W.isFn K (.ref f_Checker_are_terms) = true)
    (a_Checker_is_product : PySem.W.findIn K (.ref C_Checker) "is_product" = some (some (.ref f_Checker_is_product)))
    (l_Checker_is_product : K.lookup f_Checker_is_product = some ⟨oc_Checker_is_product, od_Checker_is_product, .func (PySem.W.fnOf "is_product" "Checker.is_product" (defArgs s_Checker_is_product) (defBody s_Checker_is_product) (defScope s_Checker_is_product) .none kV_Checker_is_product dc_Checker_is_product pm_Checker_is_product an_Checker_is_product cd_Checker_is_product ct_Checker_is_product), sl_Checker_is_product⟩)
    (c_Checker_is_product : PySem.W.codeIn K cd_Checker_is_product "Checker.is_product" = true)
    (k_Checker_is_product : PySem.W.keepIn K (.ref f_Checker_is_product) = true)
    (i_Checker_is_product : PySem.W.isFn K (.ref f_Checker_is_product) = true)
    (pg_Checker : PySem.W.plainGet K C_Checker Str.empty = true)
    (hd_Checker : PySem.W.hasDictIn K C_Checker = true)
    (po_Checker : PySem.W.plainOver K C_Checker = true)
    (sa_Checker : PySem.W.findIn K (.ref C_Checker) "__setattr__" = some (some (.builtin "object.__setattr__")))
    (mk_Checker : PySem.W.makesIn K C_Checker = true)
    (kc_Checker : PySem.W.keepIn K (.ref C_Checker) = true)
    (na_Checker_tables : PySem.W.findIn K (.ref C_Checker) "tables" = some none)
    (na_Checker_blocks : PySem.W.findIn K (.ref C_Checker) "blocks" = some none)
    (na_Checker_putters : PySem.W.findIn K (.ref C_Checker) "putters" = some none)
    (na_Checker_named : PySem.W.findIn K (.ref C_Checker) "named" = some none)
    (na_Checker_seen : PySem.W.findIn K (.ref C_Checker) "seen" = some none)
    (ha_Checker : PySem.W.findIn K (.ref C_Checker) "__class__" = some (some (.builtin "object.__class__")))
    (hn_Checker : PySem.W.specialIn K (.builtin "object.__class__") "__get__" = some (some (.builtin "getset_descriptor.__get__")))
    (ht_Checker : PySem.W.takesIn K (.builtin "object.__class__") = some true)
    (hm_Checker : PySem.W.mroIn K C_Checker (.type "object") = some true)
    (ne_Checker : PySem.W.findIn K (.ref C_Checker) "__ne__" = some (some (.builtin "object.__ne__")))
    (ob_Checker : PySem.W.subIn K (.ref C_Checker) (.type "object") = some true)
    (kt_Checker_NoneType : PySem.W.kitOne K (.type "NoneType") (.ref C_Checker) = some false)
    (nf_Checker_NoneType : PySem.W.notFirst K C_Checker (.type "NoneType") = true)
    (kt_Checker_bool : PySem.W.kitOne K (.type "bool") (.ref C_Checker) = some false)
    (nf_Checker_bool : PySem.W.notFirst K C_Checker (.type "bool") = true)
    (kt_Checker_int : PySem.W.kitOne K (.type "int") (.ref C_Checker) = some false)
    (nf_Checker_int : PySem.W.notFirst K C_Checker (.type "int") = true)
    (kt_Checker_str : PySem.W.kitOne K (.type "str") (.ref C_Checker) = some false)
    (nf_Checker_str : PySem.W.notFirst K C_Checker (.type "str") = true)
    (kt_Checker_list : PySem.W.kitOne K (.type "list") (.ref C_Checker) = some false)
    (nf_Checker_list : PySem.W.notFirst K C_Checker (.type "list") = true)
    (kt_Checker_tuple : PySem.W.kitOne K (.type "tuple") (.ref C_Checker) = some false)
    (nf_Checker_tuple : PySem.W.notFirst K C_Checker (.type "tuple") = true)
    (kt_Checker_dict : PySem.W.kitOne K (.type "dict") (.ref C_Checker) = some false)
    (nf_Checker_dict : PySem.W.notFirst K C_Checker (.type "dict") = true)
    (m_Program : PySem.W.nsIn K mainGlobals "Program" = some (some (.ref C_Program)))
    (a_Program_init : PySem.W.findIn K (.ref C_Program) "__init__" = some (some (.ref f_Program_init)))
    (l_Program_init : K.lookup f_Program_init = some ⟨oc_Program_init, od_Program_init, .func (PySem.W.fnOf "__init__" "Program.__init__" (defArgs s_Program_init) (defBody s_Program_init) (defScope s_Program_init) .none kV_Program_init dc_Program_init pm_Program_init an_Program_init cd_Program_init ct_Program_init), sl_Program_init⟩)
    (c_Program_init : PySem.W.codeIn K cd_Program_init "Program.__init__" = true)
    (k_Program_init : PySem.W.keepIn K (.ref f_Program_init) = true)
    (i_Program_init : PySem.W.isFn K (.ref f_Program_init) = true)
    (pg_Program : PySem.W.plainGet K C_Program Str.empty = true)
    (hd_Program : PySem.W.hasDictIn K C_Program = true)
    (po_Program : PySem.W.plainOver K C_Program = true)
    (sa_Program : PySem.W.findIn K (.ref C_Program) "__setattr__" = some (some (.builtin "object.__setattr__")))
    (mk_Program : PySem.W.makesIn K C_Program = true)
    (kc_Program : PySem.W.keepIn K (.ref C_Program) = true)
    (na_Program_shape : PySem.W.findIn K (.ref C_Program) "shape" = some none)
    (na_Program_blocks : PySem.W.findIn K (.ref C_Program) "blocks" = some none)
    (na_Program_body : PySem.W.findIn K (.ref C_Program) "body" = some none)
    (ha_Program : PySem.W.findIn K (.ref C_Program) "__class__" = some (some (.builtin "object.__class__")))
    (hn_Program : PySem.W.specialIn K (.builtin "object.__class__") "__get__" = some (some (.builtin "getset_descriptor.__get__")))
    (ht_Program : PySem.W.takesIn K (.builtin "object.__class__") = some true)
    (hm_Program : PySem.W.mroIn K C_Program (.type "object") = some true)
    (ne_Program : PySem.W.findIn K (.ref C_Program) "__ne__" = some (some (.builtin "object.__ne__")))
    (ob_Program : PySem.W.subIn K (.ref C_Program) (.type "object") = some true)
    (kt_Program_NoneType : PySem.W.kitOne K (.type "NoneType") (.ref C_Program) = some false)
    (nf_Program_NoneType : PySem.W.notFirst K C_Program (.type "NoneType") = true)
    (kt_Program_bool : PySem.W.kitOne K (.type "bool") (.ref C_Program) = some false)
    (nf_Program_bool : PySem.W.notFirst K C_Program (.type "bool") = true)
    (kt_Program_int : PySem.W.kitOne K (.type "int") (.ref C_Program) = some false)
    (nf_Program_int : PySem.W.notFirst K C_Program (.type "int") = true)
    (kt_Program_str : PySem.W.kitOne K (.type "str") (.ref C_Program) = some false)
    (nf_Program_str : PySem.W.notFirst K C_Program (.type "str") = true)
    (kt_Program_list : PySem.W.kitOne K (.type "list") (.ref C_Program) = some false)
    (nf_Program_list : PySem.W.notFirst K C_Program (.type "list") = true)
    (kt_Program_tuple : PySem.W.kitOne K (.type "tuple") (.ref C_Program) = some false)
    (nf_Program_tuple : PySem.W.notFirst K C_Program (.type "tuple") = true)
    (kt_Program_dict : PySem.W.kitOne K (.type "dict") (.ref C_Program) = some false)
    (nf_Program_dict : PySem.W.notFirst K C_Program (.type "dict") = true)
    (m_BadShape : PySem.W.nsIn K mainGlobals "BadShape" = some (some (.ref C_BadShape)))
    (x_BadShape : K.lookup C_BadShape = some (excClassObj nm_BadShape q_BadShape C_BadShape N_BadShape bs_BadShape [.ref C_MetError, .type "ValueError", .type "Exception", .type "BaseException", .type "object"] true sn_BadShape sub_BadShape ab_BadShape col_BadShape dd_BadShape m0_BadShape m1_BadShape m2_BadShape m3_BadShape m5_BadShape "ValueError.__new__"))
    (s_BadShape : PySem.W.findIn K (.ref C_BadShape) "__setattr__" = some (some (.builtin "object.__setattr__")))
    (ga_BadShape : PySem.W.findIn K (.ref C_BadShape) "__getattribute__" = some (some (.builtin "BaseException.__getattribute__")))
    (gg_BadShape : PySem.W.findIn K (.ref C_BadShape) "__getattr__" = some none)
    (no_BadShape : PySem.W.findIn K (.ref C_BadShape) "at" = some none)
    (a_BadShape_init : PySem.W.findIn K (.ref C_BadShape) "__init__" = some (some (.ref f_BadShape_init)))
    (l_BadShape_init : K.lookup f_BadShape_init = some ⟨oc_BadShape_init, od_BadShape_init, .func (PySem.W.fnOf "__init__" "BadShape.__init__" (defArgs s_BadShape_init) (defBody s_BadShape_init) (defScope s_BadShape_init) .none kV_BadShape_init dc_BadShape_init pm_BadShape_init an_BadShape_init cd_BadShape_init ct_BadShape_init), sl_BadShape_init⟩)
    (c_BadShape_init : PySem.W.codeIn K cd_BadShape_init "BadShape.__init__" = true)
    (k_BadShape_init : PySem.W.keepIn K (.ref f_BadShape_init) = true)
    (t_BadShape_init : PySem.W.typeIn K (.ref f_BadShape_init) = some (.type "function"))
    (e_BadShape : PySem.W.subIn K (.ref C_BadShape) (.type "BaseException") = some true)
    (ty_BadShape : PySem.W.typeIn K (.ref C_BadShape) = some (.type "type"))
    (kk_BadShape : PySem.W.keepIn K (.ref C_BadShape) = true)
    (hd_BadShape : PySem.W.hasDictIn K C_BadShape = true)
    (m_BadMove : PySem.W.nsIn K mainGlobals "BadMove" = some (some (.ref C_BadMove)))
    (x_BadMove : K.lookup C_BadMove = some (excClassObj nm_BadMove q_BadMove C_BadMove N_BadMove bs_BadMove [.ref C_MetError, .type "ValueError", .type "Exception", .type "BaseException", .type "object"] true sn_BadMove sub_BadMove ab_BadMove col_BadMove dd_BadMove m0_BadMove m1_BadMove m2_BadMove m3_BadMove m5_BadMove "ValueError.__new__"))
    (s_BadMove : PySem.W.findIn K (.ref C_BadMove) "__setattr__" = some (some (.builtin "object.__setattr__")))
    (ga_BadMove : PySem.W.findIn K (.ref C_BadMove) "__getattribute__" = some (some (.builtin "BaseException.__getattribute__")))
    (gg_BadMove : PySem.W.findIn K (.ref C_BadMove) "__getattr__" = some none)
    (no_BadMove : PySem.W.findIn K (.ref C_BadMove) "value" = some none)
    (a_BadMove_init : PySem.W.findIn K (.ref C_BadMove) "__init__" = some (some (.ref f_BadMove_init)))
    (l_BadMove_init : K.lookup f_BadMove_init = some ⟨oc_BadMove_init, od_BadMove_init, .func (PySem.W.fnOf "__init__" "BadMove.__init__" (defArgs s_BadMove_init) (defBody s_BadMove_init) (defScope s_BadMove_init) .none kV_BadMove_init dc_BadMove_init pm_BadMove_init an_BadMove_init cd_BadMove_init ct_BadMove_init), sl_BadMove_init⟩)
    (c_BadMove_init : PySem.W.codeIn K cd_BadMove_init "BadMove.__init__" = true)
    (k_BadMove_init : PySem.W.keepIn K (.ref f_BadMove_init) = true)
    (t_BadMove_init : PySem.W.typeIn K (.ref f_BadMove_init) = some (.type "function"))
    (e_BadMove : PySem.W.subIn K (.ref C_BadMove) (.type "BaseException") = some true)
    (ty_BadMove : PySem.W.typeIn K (.ref C_BadMove) = some (.type "type"))
    (kk_BadMove : PySem.W.keepIn K (.ref C_BadMove) = true)
    (hd_BadMove : PySem.W.hasDictIn K C_BadMove = true)
    (a_PARTS : PySem.W.nsIn K mainGlobals "PARTS" = some (some (.ref d_PARTS)))
    (l_PARTS : K.lookup d_PARTS = some ⟨.type "dict", none, .dict es_PARTS n_PARTS, #[]⟩)
    (q_PARTS : PySem.W.KeysLit w.params es_PARTS.toList)
    (o_PARTS : (d_PARTS == sysModules) = false)
    (t_scan : PySem.W.nsIn K d_PARTS "scan" = some (some (.int 4 tk_t_scan)))
    (t_run : PySem.W.nsIn K d_PARTS "run" = some (some (.int 5 tk_t_run)))
    (t_seek : PySem.W.nsIn K d_PARTS "seek" = some (some (.int 6 tk_t_seek)))
    (t_each : PySem.W.nsIn K d_PARTS "each" = some (some (.int 4 tk_t_each)))
    (t_rise : PySem.W.nsIn K d_PARTS "rise" = some (some (.int 5 tk_t_rise)))
    (t_look : PySem.W.nsIn K d_PARTS "look" = some (some (.int 5 tk_t_look)))
    (t_same : PySem.W.nsIn K d_PARTS "same" = some (some (.int 4 tk_t_same)))
    (t_put : PySem.W.nsIn K d_PARTS "put" = some (some (.int 4 tk_t_put)))
    (xm_BadMove_BadMove : PySem.W.exmOne K (.ref C_BadMove) (.ref C_BadMove) = some true)
    (a_LOOPS : PySem.W.nsIn K mainGlobals "LOOPS" = some (some (.ref d_LOOPS)))
    (l_LOOPS : K.lookup d_LOOPS = some ⟨.type "tuple", none, .seq its_LOOPS n_LOOPS, #[]⟩)
    (v_LOOPS : Vals loops5 its_LOOPS.toList)
    (z_LOOPS : its_LOOPS.size ≤ sizeLine)
    (a_law : PySem.W.nsIn K mainGlobals "law" = some (some (.ref f_law)))
    (l_law : K.lookup f_law = some ⟨oc_law, od_law, .func (PySem.W.fnOf "law" "law" (defArgs s_law) (defBody s_law) (defScope s_law) .none kV_law dc_law pm_law an_law cd_law ct_law), sl_law⟩)
    (c_law : PySem.W.codeIn K cd_law "law" = true)
    (k_law : PySem.W.keepIn K (.ref f_law) = true) :
    ∃ fd : FuncData, (∀ (s : Shared) (v : Value), BindsTo s fd ⟨[v], []⟩ [("_law_script", v)]) ∧ ∀ base : Heap, K.In base → base.Ns mainGlobals mg → FnOk l.prog w K mg base CX0 21 fa fd ["_law_script"] (spLaw K) := by
  have e := hfa.symm.trans (PySem.W.mg_of X G a_law)
  cases e
  have B : Bi mg := ⟨PySem.W.mg_none_of X G z_len, PySem.W.mg_none_of X G z_list, PySem.W.mg_none_of X G z_tuple, PySem.W.mg_none_of X G z_isinstance, PySem.W.mg_none_of X G z_int, PySem.W.mg_none_of X G z_range, PySem.W.mg_none_of X G z_max, PySem.W.mg_none_of X G z_all, PySem.W.mg_none_of X G z_bool, PySem.W.mg_none_of X G z_dict, PySem.W.mg_none_of X G z_str, PySem.W.mg_none_of X G z_enumerate⟩
  have N_LETTERS := PySem.W.mg_of X G n_LETTERS
  have N_MOST_VALUE := PySem.W.mg_of X G n_MOST_VALUE
  have N_MOST_BLOCKS := PySem.W.mg_of X G n_MOST_BLOCKS
  have N_MOST_TOPS := PySem.W.mg_of X G n_MOST_TOPS
  have N_MOST_BODY := PySem.W.mg_of X G n_MOST_BODY
  have N_MOST_DEEP := PySem.W.mg_of X G n_MOST_DEEP
  have N_MOST_STATEMENTS := PySem.W.mg_of X G n_MOST_STATEMENTS
  have N_MOST_MULTIPLE := PySem.W.mg_of X G n_MOST_MULTIPLE
  have F_is_row := fun_mk (st := s_is_row) l_is_row c_is_row k_is_row
  have b_is_row := F_is_row.binds (ps := ["thing"]) fun _ _ _ _ _ _ us hl => Fm.len_1 (fun _ => rfl) us hl
  have D_is_row : Dfn K mg "is_row" s_is_row ["thing"] := ⟨_, _, F_is_row, PySem.W.mg_of X G a_is_row, b_is_row⟩
  have F_is_integer := fun_mk (st := s_is_integer) l_is_integer c_is_integer k_is_integer
  have b_is_integer := F_is_integer.binds (ps := ["thing"]) fun _ _ _ _ _ _ us hl => Fm.len_1 (fun _ => rfl) us hl
  have D_is_integer : Dfn K mg "is_integer" s_is_integer ["thing"] := ⟨_, _, F_is_integer, PySem.W.mg_of X G a_is_integer, b_is_integer⟩
  have F_is_value := fun_mk (st := s_is_value) l_is_value c_is_value k_is_value
  have b_is_value := F_is_value.binds (ps := ["thing"]) fun _ _ _ _ _ _ us hl => Fm.len_1 (fun _ => rfl) us hl
  have D_is_value : Dfn K mg "is_value" s_is_value ["thing"] := ⟨_, _, F_is_value, PySem.W.mg_of X G a_is_value, b_is_value⟩
  have F_is_name := fun_mk (st := s_is_name) l_is_name c_is_name k_is_name
  have b_is_name := F_is_name.binds (ps := ["thing"]) fun _ _ _ _ _ _ us hl => Fm.len_1 (fun _ => rfl) us hl
  have D_is_name : Dfn K mg "is_name" s_is_name ["thing"] := ⟨_, _, F_is_name, PySem.W.mg_of X G a_is_name, b_is_name⟩
  have F_are_names := fun_mk (st := s_are_names) l_are_names c_are_names k_are_names
  have b_are_names := F_are_names.binds (ps := ["thing", "least", "most"]) fun _ _ _ _ _ _ us hl => Fm.len_3 (fun _ _ _ => rfl) us hl
  have D_are_names : Dfn K mg "are_names" s_are_names ["thing", "least", "most"] := ⟨_, _, F_are_names, PySem.W.mg_of X G a_are_names, b_are_names⟩
  have F_is_table := fun_mk (st := s_is_table) l_is_table c_is_table k_is_table
  have b_is_table := F_is_table.binds (ps := ["thing"]) fun _ _ _ _ _ _ us hl => Fm.len_1 (fun _ => rfl) us hl
  have D_is_table : Dfn K mg "is_table" s_is_table ["thing"] := ⟨_, _, F_is_table, PySem.W.mg_of X G a_is_table, b_is_table⟩
  have F_has_form := fun_mk (st := s_has_form) l_has_form c_has_form k_has_form
  have b_has_form := F_has_form.binds (ps := ["statement"]) fun _ _ _ _ _ _ us hl => Fm.len_1 (fun _ => rfl) us hl
  have D_has_form : Dfn K mg "has_form" s_has_form ["statement"] := ⟨_, _, F_has_form, PySem.W.mg_of X G a_has_form, b_has_form⟩
  have F_is_block := fun_mk (st := s_is_block) l_is_block c_is_block k_is_block
  have b_is_block := F_is_block.binds (ps := ["thing"]) fun _ _ _ _ _ _ us hl => Fm.len_1 (fun _ => rfl) us hl
  have D_is_block : Dfn K mg "is_block" s_is_block ["thing"] := ⟨_, _, F_is_block, PySem.W.mg_of X G a_is_block, b_is_block⟩
  have F_kept_adds := fun_mk (st := s_kept_adds) l_kept_adds c_kept_adds k_kept_adds
  have b_kept_adds := F_kept_adds.binds (ps := ["adds"]) fun _ _ _ _ _ _ us hl => Fm.len_1 (fun _ => rfl) us hl
  have D_kept_adds : Dfn K mg "kept_adds" s_kept_adds ["adds"] := ⟨_, _, F_kept_adds, PySem.W.mg_of X G a_kept_adds, b_kept_adds⟩
  have F_kept_statement := fun_mk (st := s_kept_statement) l_kept_statement c_kept_statement k_kept_statement
  have b_kept_statement := F_kept_statement.binds (ps := ["statement"]) fun _ _ _ _ _ _ us hl => Fm.len_1 (fun _ => rfl) us hl
  have D_kept_statement : Dfn K mg "kept_statement" s_kept_statement ["statement"] := ⟨_, _, F_kept_statement, PySem.W.mg_of X G a_kept_statement, b_kept_statement⟩
  have F_kept_blocks := fun_mk (st := s_kept_blocks) l_kept_blocks c_kept_blocks k_kept_blocks
  have b_kept_blocks := F_kept_blocks.binds (ps := ["shape", "blocks"]) fun _ _ _ _ _ _ us hl => Fm.len_2 (fun _ _ => rfl) us hl
  have D_kept_blocks : Dfn K mg "kept_blocks" s_kept_blocks ["shape", "blocks"] := ⟨_, _, F_kept_blocks, PySem.W.mg_of X G a_kept_blocks, b_kept_blocks⟩
  have F_law_bag := fun_mk (st := s__law_bag) l_law_bag c_law_bag k_law_bag
  have b_law_bag := F_law_bag.binds (ps := ["_law_script"]) fun _ _ _ _ _ _ us hl => Fm.len_1 (fun _ => rfl) us hl
  have D_law_bag : Dfn K mg "_law_bag" s__law_bag ["_law_script"] := ⟨_, _, F_law_bag, PySem.W.mg_of X G a_law_bag, b_law_bag⟩
  have F_law_pick := fun_mk (st := s__law_pick) l_law_pick c_law_pick k_law_pick
  have b_law_pick := F_law_pick.binds (ps := ["_law_bag_here", "_law_many"]) fun _ _ _ _ _ _ us hl => Fm.len_2 (fun _ _ => rfl) us hl
  have D_law_pick : Dfn K mg "_law_pick" s__law_pick ["_law_bag_here", "_law_many"] := ⟨_, _, F_law_pick, PySem.W.mg_of X G a_law_pick, b_law_pick⟩
  have F_law_name := fun_mk (st := s__law_name) l_law_name c_law_name k_law_name
  have b_law_name := F_law_name.binds (ps := ["_law_bag_here", "_law_taken"]) fun _ _ _ _ _ _ us hl => Fm.len_2 (fun _ _ => rfl) us hl
  have D_law_name : Dfn K mg "_law_name" s__law_name ["_law_bag_here", "_law_taken"] := ⟨_, _, F_law_name, PySem.W.mg_of X G a_law_name, b_law_name⟩
  have F_law_value := fun_mk (st := s__law_value) l_law_value c_law_value k_law_value
  have b_law_value := F_law_value.binds (ps := ["_law_bag_here"]) fun _ _ _ _ _ _ us hl => Fm.len_1 (fun _ => rfl) us hl
  have D_law_value : Dfn K mg "_law_value" s__law_value ["_law_bag_here"] := ⟨_, _, F_law_value, PySem.W.mg_of X G a_law_value, b_law_value⟩
  have F_law_tables := fun_mk (st := s__law_tables) l_law_tables c_law_tables k_law_tables
  have b_law_tables := F_law_tables.binds (ps := ["_law_bag_here"]) fun _ _ _ _ _ _ us hl => Fm.len_1 (fun _ => rfl) us hl
  have D_law_tables : Dfn K mg "_law_tables" s__law_tables ["_law_bag_here"] := ⟨_, _, F_law_tables, PySem.W.mg_of X G a_law_tables, b_law_tables⟩
  have F_law_blocks := fun_mk (st := s__law_blocks) l_law_blocks c_law_blocks k_law_blocks
  have b_law_blocks := F_law_blocks.binds (ps := ["_law_bag_here", "_law_tables_here", "_law_many"]) fun _ _ _ _ _ _ us hl => Fm.len_3 (fun _ _ _ => rfl) us hl
  have D_law_blocks : Dfn K mg "_law_blocks" s__law_blocks ["_law_bag_here", "_law_tables_here", "_law_many"] := ⟨_, _, F_law_blocks, PySem.W.mg_of X G a_law_blocks, b_law_blocks⟩
  have F_law_term := fun_mk (st := s__law_term) l_law_term c_law_term k_law_term
  have b_law_term := F_law_term.binds (ps := ["_law_bag_here", "_law_scope"]) fun _ _ _ _ _ _ us hl => Fm.len_2 (fun _ _ => rfl) us hl
  have D_law_term : Dfn K mg "_law_term" s__law_term ["_law_bag_here", "_law_scope"] := ⟨_, _, F_law_term, PySem.W.mg_of X G a_law_term, b_law_term⟩
  have F_law_product := fun_mk (st := s__law_product) l_law_product c_law_product k_law_product
  have b_law_product := F_law_product.binds (ps := ["_law_bag_here", "_law_scope"]) fun _ _ _ _ _ _ us hl => Fm.len_2 (fun _ _ => rfl) us hl
  have D_law_product : Dfn K mg "_law_product" s__law_product ["_law_bag_here", "_law_scope"] := ⟨_, _, F_law_product, PySem.W.mg_of X G a_law_product, b_law_product⟩
  have F_law_put := fun_mk (st := s__law_put) l_law_put c_law_put k_law_put
  have b_law_put := F_law_put.binds (ps := ["_law_bag_here", "_law_block", "_law_scope"]) fun _ _ _ _ _ _ us hl => Fm.len_3 (fun _ _ _ => rfl) us hl
  have D_law_put : Dfn K mg "_law_put" s__law_put ["_law_bag_here", "_law_block", "_law_scope"] := ⟨_, _, F_law_put, PySem.W.mg_of X G a_law_put, b_law_put⟩
  have F_law_opening := fun_mk (st := s__law_opening) l_law_opening c_law_opening k_law_opening
  have b_law_opening := F_law_opening.binds (ps := ["_law_bag_here", "_law_tables_here", "_law_readable", "_law_scope"]) fun _ _ _ _ _ _ us hl => Fm.len_4 (fun _ _ _ _ => rfl) us hl
  have D_law_opening : Dfn K mg "_law_opening" s__law_opening ["_law_bag_here", "_law_tables_here", "_law_readable", "_law_scope"] := ⟨_, _, F_law_opening, PySem.W.mg_of X G a_law_opening, b_law_opening⟩
  have F_law_branch := fun_mk (st := s__law_branch) l_law_branch c_law_branch k_law_branch
  have b_law_branch := F_law_branch.binds (ps := ["_law_bag_here", "_law_tables_here", "_law_readable", "_law_scope", "_law_block"]) fun _ _ _ _ _ _ us hl => Fm.len_5 (fun _ _ _ _ _ => rfl) us hl
  have D_law_branch : Dfn K mg "_law_branch" s__law_branch ["_law_bag_here", "_law_tables_here", "_law_readable", "_law_scope", "_law_block"] := ⟨_, _, F_law_branch, PySem.W.mg_of X G a_law_branch, b_law_branch⟩
  have F_law_top := fun_mk (st := s__law_top) l_law_top c_law_top k_law_top
  have b_law_top := F_law_top.binds (ps := ["_law_bag_here", "_law_tables_here", "_law_readable", "_law_block", "_law_others"]) fun _ _ _ _ _ _ us hl => Fm.len_5 (fun _ _ _ _ _ => rfl) us hl
  have D_law_top : Dfn K mg "_law_top" s__law_top ["_law_bag_here", "_law_tables_here", "_law_readable", "_law_block", "_law_others"] := ⟨_, _, F_law_top, PySem.W.mg_of X G a_law_top, b_law_top⟩
  have F_law_open := fun_mk (st := s__law_open) l_law_open c_law_open k_law_open
  have b_law_open := F_law_open.binds (ps := ["_law_bag_here", "_law_tables_here", "_law_readable", "_law_openings", "_law_scope"]) fun _ _ _ _ _ _ us hl => Fm.len_5 (fun _ _ _ _ _ => rfl) us hl
  have D_law_open : Dfn K mg "_law_open" s__law_open ["_law_bag_here", "_law_tables_here", "_law_readable", "_law_openings", "_law_scope"] := ⟨_, _, F_law_open, PySem.W.mg_of X G a_law_open, b_law_open⟩
  have F_law_around := fun_mk (st := s__law_around) l_law_around c_law_around k_law_around
  have b_law_around := F_law_around.binds (ps := ["_law_bag_here", "_law_tables_here", "_law_readable", "_law_least", "_law_most"]) fun _ _ _ _ _ _ us hl => Fm.len_5 (fun _ _ _ _ _ => rfl) us hl
  have D_law_around : Dfn K mg "_law_around" s__law_around ["_law_bag_here", "_law_tables_here", "_law_readable", "_law_least", "_law_most"] := ⟨_, _, F_law_around, PySem.W.mg_of X G a_law_around, b_law_around⟩
  have F_law_idle_put := fun_mk (st := s__law_idle_put) l_law_idle_put c_law_idle_put k_law_idle_put
  have b_law_idle_put := F_law_idle_put.binds (ps := ["_law_bag_here", "_law_block"]) fun _ _ _ _ _ _ us hl => Fm.len_2 (fun _ _ => rfl) us hl
  have D_law_idle_put : Dfn K mg "_law_idle_put" s__law_idle_put ["_law_bag_here", "_law_block"] := ⟨_, _, F_law_idle_put, PySem.W.mg_of X G a_law_idle_put, b_law_idle_put⟩
  have F_law_wrapped := fun_mk (st := s__law_wrapped) l_law_wrapped c_law_wrapped k_law_wrapped
  have b_law_wrapped := F_law_wrapped.binds (ps := ["_law_openings", "_law_statement", "_law_beside", "_law_at", "_law_side"]) fun _ _ _ _ _ _ us hl => Fm.len_5 (fun _ _ _ _ _ => rfl) us hl
  have D_law_wrapped : Dfn K mg "_law_wrapped" s__law_wrapped ["_law_openings", "_law_statement", "_law_beside", "_law_at", "_law_side"] := ⟨_, _, F_law_wrapped, PySem.W.mg_of X G a_law_wrapped, b_law_wrapped⟩
  have F_law_after := fun_mk (st := s__law_after) l_law_after c_law_after k_law_after
  have b_law_after := F_law_after.binds (ps := ["_law_program", "_law_move"]) fun _ _ _ _ _ _ us hl => Fm.len_2 (fun _ _ => rfl) us hl
  have D_law_after : Dfn K mg "_law_after" s__law_after ["_law_program", "_law_move"] := ⟨_, _, F_law_after, PySem.W.mg_of X G a_law_after, b_law_after⟩
  have F_law_is_program := fun_mk (st := s__law_is_program) l_law_is_program c_law_is_program k_law_is_program
  have b_law_is_program := F_law_is_program.binds (ps := ["_law_thing", "_law_tables_here", "_law_blocks_here", "_law_body"]) fun _ _ _ _ _ _ us hl => Fm.len_4 (fun _ _ _ _ => rfl) us hl
  have D_law_is_program : Dfn K mg "_law_is_program" s__law_is_program ["_law_thing", "_law_tables_here", "_law_blocks_here", "_law_body"] := ⟨_, _, F_law_is_program, PySem.W.mg_of X G a_law_is_program, b_law_is_program⟩
  have F_law_leads := fun_mk (st := s__law_leads) l_law_leads c_law_leads k_law_leads
  have b_law_leads := F_law_leads.binds (ps := ["_law_program", "_law_tables_here", "_law_blocks_here", "_law_body", "_law_move", "_law_due_blocks", "_law_due"]) fun _ _ _ _ _ _ us hl => Fm.len_7 (fun _ _ _ _ _ _ _ => rfl) us hl
  have D_law_leads : Dfn K mg "_law_leads" s__law_leads ["_law_program", "_law_tables_here", "_law_blocks_here", "_law_body", "_law_move", "_law_due_blocks", "_law_due"] := ⟨_, _, F_law_leads, PySem.W.mg_of X G a_law_leads, b_law_leads⟩
  have F_is_index := fun_mk (st := s_is_index) l_is_index c_is_index k_is_index
  have b_is_index := F_is_index.binds (ps := ["thing"]) fun _ _ _ _ _ _ us hl => Fm.len_1 (fun _ => rfl) us hl
  have D_is_index : Dfn K mg "is_index" s_is_index ["thing"] := ⟨_, _, F_is_index, PySem.W.mg_of X G a_is_index, b_is_index⟩
  have F_statement_at := fun_mk (st := s_statement_at) l_statement_at c_statement_at k_statement_at
  have b_statement_at := F_statement_at.binds (ps := ["body", "path"]) fun _ _ _ _ _ _ us hl => Fm.len_2 (fun _ _ => rfl) us hl
  have D_statement_at : Dfn K mg "statement_at" s_statement_at ["body", "path"] := ⟨_, _, F_statement_at, PySem.W.mg_of X G a_statement_at, b_statement_at⟩
  have F_replaced := fun_mk (st := s_replaced) l_replaced c_replaced k_replaced
  have b_replaced := F_replaced.binds (ps := ["body", "path", "statement"]) fun _ _ _ _ _ _ us hl => Fm.len_3 (fun _ _ _ => rfl) us hl
  have D_replaced : Dfn K mg "replaced" s_replaced ["body", "path", "statement"] := ⟨_, _, F_replaced, PySem.W.mg_of X G a_replaced, b_replaced⟩
  have F_names := fun_mk (st := s_names) l_names c_names k_names
  have b_names := F_names.binds (ps := ["term", "variable"]) fun _ _ _ _ _ _ us hl => Fm.len_2 (fun _ _ => rfl) us hl
  have D_names : Dfn K mg "names" s_names ["term", "variable"] := ⟨_, _, F_names, PySem.W.mg_of X G a_names, b_names⟩
  have F_body_out := fun_mk (st := s_body_out) l_body_out c_body_out k_body_out
  have b_body_out := F_body_out.binds (ps := ["body", "path"]) fun _ _ _ _ _ _ us hl => Fm.len_2 (fun _ _ => rfl) us hl
  have D_body_out : Dfn K mg "body_out" s_body_out ["body", "path"] := ⟨_, _, F_body_out, PySem.W.mg_of X G a_body_out, b_body_out⟩
  have F_body_turn := fun_mk (st := s_body_turn) l_body_turn c_body_turn k_body_turn
  have b_body_turn := F_body_turn.binds (ps := ["body", "path"]) fun _ _ _ _ _ _ us hl => Fm.len_2 (fun _ _ => rfl) us hl
  have D_body_turn : Dfn K mg "body_turn" s_body_turn ["body", "path"] := ⟨_, _, F_body_turn, PySem.W.mg_of X G a_body_turn, b_body_turn⟩
  have F_body_seek := fun_mk (st := s_body_seek) l_body_seek c_body_seek k_body_seek
  have b_body_seek := F_body_seek.binds (ps := ["body", "path"]) fun _ _ _ _ _ _ us hl => Fm.len_2 (fun _ _ => rfl) us hl
  have D_body_seek : Dfn K mg "body_seek" s_body_seek ["body", "path"] := ⟨_, _, F_body_seek, PySem.W.mg_of X G a_body_seek, b_body_seek⟩
  have F_body_scan := fun_mk (st := s_body_scan) l_body_scan c_body_scan k_body_scan
  have b_body_scan := F_body_scan.binds (ps := ["body", "path"]) fun _ _ _ _ _ _ us hl => Fm.len_2 (fun _ _ => rfl) us hl
  have D_body_scan : Dfn K mg "body_scan" s_body_scan ["body", "path"] := ⟨_, _, F_body_scan, PySem.W.mg_of X G a_body_scan, b_body_scan⟩
  have F_top_body := fun_mk (st := s_top_body) l_top_body c_top_body k_top_body
  have b_top_body := F_top_body.binds (ps := ["body", "kind", "at"]) fun _ _ _ _ _ _ us hl => Fm.len_3 (fun _ _ _ => rfl) us hl
  have D_top_body : Dfn K mg "top_body" s_top_body ["body", "kind", "at"] := ⟨_, _, F_top_body, PySem.W.mg_of X G a_top_body, b_top_body⟩
  have F_after_hold := fun_mk (st := s_after_hold) l_after_hold c_after_hold k_after_hold
  have b_after_hold := F_after_hold.binds (ps := ["program", "path", "name"]) fun _ _ _ _ _ _ us hl => Fm.len_3 (fun _ _ _ => rfl) us hl
  have D_after_hold : Dfn K mg "after_hold" s_after_hold ["program", "path", "name"] := ⟨_, _, F_after_hold, PySem.W.mg_of X G a_after_hold, b_after_hold⟩
  have F_after_move := fun_mk (st := s_after_move) l_after_move c_after_move k_after_move
  have b_after_move := F_after_move.binds (ps := ["program", "move"]) fun _ _ _ _ _ _ us hl => Fm.len_2 (fun _ _ => rfl) us hl
  have D_after_move : Dfn K mg "after_move" s_after_move ["program", "move"] := ⟨_, _, F_after_move, PySem.W.mg_of X G a_after_move, b_after_move⟩
  have F_moved := fun_mk (st := s_moved) l_moved c_moved k_moved
  have b_moved := F_moved.binds (ps := ["program", "move"]) fun _ _ _ _ _ _ us hl => Fm.len_2 (fun _ _ => rfl) us hl
  have D_moved : Dfn K mg "moved" s_moved ["program", "move"] := ⟨_, _, F_moved, PySem.W.mg_of X G a_moved, b_moved⟩
  have F_law_of := fun_mk (st := s__law_of) l_law_of c_law_of k_law_of
  have b_law_of := F_law_of.binds (ps := ["_law_term_here", "_law_variable"]) fun _ _ _ _ _ _ us hl => Fm.len_2 (fun _ _ => rfl) us hl
  have D_law_of : Dfn K mg "_law_of" s__law_of ["_law_term_here", "_law_variable"] := ⟨_, _, F_law_of, PySem.W.mg_of X G a_law_of, b_law_of⟩
  have F_law_loop := fun_mk (st := s__law_loop) l_law_loop c_law_loop k_law_loop
  have b_law_loop := F_law_loop.binds (ps := ["_law_bag_here", "_law_tables_here", "_law_held", "_law_scope"]) fun _ _ _ _ _ _ us hl => Fm.len_4 (fun _ _ _ _ => rfl) us hl
  have D_law_loop : Dfn K mg "_law_loop" s__law_loop ["_law_bag_here", "_law_tables_here", "_law_held", "_law_scope"] := ⟨_, _, F_law_loop, PySem.W.mg_of X G a_law_loop, b_law_loop⟩
  have F_Shape_init := fun_mk (st := s_Shape_init) l_Shape_init c_Shape_init k_Shape_init
  have b_Shape_init := F_Shape_init.binds (ps := ["self", "tables"]) fun _ _ _ _ _ _ us hl => Fm.len_2 (fun _ _ => rfl) us hl
  have M_Shape_init : Meth K C_Shape "__init__" f_Shape_init := ⟨a_Shape_init, i_Shape_init, k_Shape_init⟩
  have CL_Shape : Cls K C_Shape := ⟨pg_Shape, hd_Shape, po_Shape, sa_Shape⟩
  have XX_Shape : InsX K C_Shape := ⟨CL_Shape, ha_Shape, hn_Shape, ht_Shape, hm_Shape, by simp only [List.mem_cons, List.not_mem_nil, or_false, forall_eq_or_imp, forall_eq]; exact ⟨kt_Shape_NoneType, kt_Shape_bool, kt_Shape_int, kt_Shape_str, kt_Shape_list, kt_Shape_tuple, kt_Shape_dict⟩⟩
  have F_Checker_init := fun_mk (st := s_Checker_init) l_Checker_init c_Checker_init k_Checker_init
  have b_Checker_init := F_Checker_init.binds (ps := ["self", "shape", "blocks"]) fun _ _ _ _ _ _ us hl => Fm.len_3 (fun _ _ _ => rfl) us hl
  have M_Checker_init : Meth K C_Checker "__init__" f_Checker_init := ⟨a_Checker_init, i_Checker_init, k_Checker_init⟩
  have F_Checker_first_wrong := fun_mk (st := s_Checker_first_wrong) l_Checker_first_wrong c_Checker_first_wrong k_Checker_first_wrong
  have b_Checker_first_wrong := F_Checker_first_wrong.binds (ps := ["self", "statement", "path", "around"]) fun _ _ _ _ _ _ us hl => Fm.len_4 (fun _ _ _ _ => rfl) us hl
  have M_Checker_first_wrong : Meth K C_Checker "first_wrong" f_Checker_first_wrong := ⟨a_Checker_first_wrong, i_Checker_first_wrong, k_Checker_first_wrong⟩
  have F_Checker_fits := fun_mk (st := s_Checker_fits) l_Checker_fits c_Checker_fits k_Checker_fits
  have b_Checker_fits := F_Checker_fits.binds (ps := ["self", "statement", "top", "around"]) fun _ _ _ _ _ _ us hl => Fm.len_4 (fun _ _ _ _ => rfl) us hl
  have M_Checker_fits : Meth K C_Checker "fits" f_Checker_fits := ⟨a_Checker_fits, i_Checker_fits, k_Checker_fits⟩
  have F_Checker_fits_table := fun_mk (st := s_Checker_fits_table) l_Checker_fits_table c_Checker_fits_table k_Checker_fits_table
  have b_Checker_fits_table := F_Checker_fits_table.binds (ps := ["self", "statement", "around"]) fun _ _ _ _ _ _ us hl => Fm.len_3 (fun _ _ _ => rfl) us hl
  have M_Checker_fits_table : Meth K C_Checker "fits_table" f_Checker_fits_table := ⟨a_Checker_fits_table, i_Checker_fits_table, k_Checker_fits_table⟩
  have F_Checker_fits_entry := fun_mk (st := s_Checker_fits_entry) l_Checker_fits_entry c_Checker_fits_entry k_Checker_fits_entry
  have b_Checker_fits_entry := F_Checker_fits_entry.binds (ps := ["self", "statement", "top", "around"]) fun _ _ _ _ _ _ us hl => Fm.len_4 (fun _ _ _ _ => rfl) us hl
  have M_Checker_fits_entry : Meth K C_Checker "fits_entry" f_Checker_fits_entry := ⟨a_Checker_fits_entry, i_Checker_fits_entry, k_Checker_fits_entry⟩
  have F_Checker_fits_put := fun_mk (st := s_Checker_fits_put) l_Checker_fits_put c_Checker_fits_put k_Checker_fits_put
  have b_Checker_fits_put := F_Checker_fits_put.binds (ps := ["self", "statement", "top", "around"]) fun _ _ _ _ _ _ us hl => Fm.len_4 (fun _ _ _ _ => rfl) us hl
  have M_Checker_fits_put : Meth K C_Checker "fits_put" f_Checker_fits_put := ⟨a_Checker_fits_put, i_Checker_fits_put, k_Checker_fits_put⟩
  have F_Checker_is_read := fun_mk (st := s_Checker_is_read) l_Checker_is_read c_Checker_is_read k_Checker_is_read
  have b_Checker_is_read := F_Checker_is_read.binds (ps := ["self", "thing", "around", "sums_too"]) fun _ _ _ _ _ _ us hl => Fm.len_4 (fun _ _ _ _ => rfl) us hl
  have M_Checker_is_read : Meth K C_Checker "is_read" f_Checker_is_read := ⟨a_Checker_is_read, i_Checker_is_read, k_Checker_is_read⟩
  have F_Checker_is_term := fun_mk (st := s_Checker_is_term) l_Checker_is_term c_Checker_is_term k_Checker_is_term
  have b_Checker_is_term := F_Checker_is_term.binds (ps := ["self", "thing", "around"]) fun _ _ _ _ _ _ us hl => Fm.len_3 (fun _ _ _ => rfl) us hl
  have M_Checker_is_term : Meth K C_Checker "is_term" f_Checker_is_term := ⟨a_Checker_is_term, i_Checker_is_term, k_Checker_is_term⟩
  have F_Checker_are_terms := fun_mk (st := s_Checker_are_terms) l_Checker_are_terms c_Checker_are_terms k_Checker_are_terms
  have b_Checker_are_terms := F_Checker_are_terms.binds (ps := ["self", "thing", "many", "around"]) fun _ _ _ _ _ _ us hl => Fm.len_4 (fun _ _ _ _ => rfl) us hl
  have M_Checker_are_terms : Meth K C_Checker "are_terms" f_Checker_are_terms := ⟨a_Checker_are_terms, i_Checker_are_terms, k_Checker_are_terms⟩
  have F_Checker_is_product := fun_mk (st := s_Checker_is_product) l_Checker_is_product c_Checker_is_product k_Checker_is_product
  have b_Checker_is_product := F_Checker_is_product.binds (ps := ["self", "thing", "around"]) fun _ _ _ _ _ _ us hl => Fm.len_3 (fun _ _ _ => rfl) us hl
  have M_Checker_is_product : Meth K C_Checker "is_product" f_Checker_is_product := ⟨a_Checker_is_product, i_Checker_is_product, k_Checker_is_product⟩
  have CL_Checker : Cls K C_Checker := ⟨pg_Checker, hd_Checker, po_Checker, sa_Checker⟩
  have XX_Checker : InsX K C_Checker := ⟨CL_Checker, ha_Checker, hn_Checker, ht_Checker, hm_Checker, by simp only [List.mem_cons, List.not_mem_nil, or_false, forall_eq_or_imp, forall_eq]; exact ⟨kt_Checker_NoneType, kt_Checker_bool, kt_Checker_int, kt_Checker_str, kt_Checker_list, kt_Checker_tuple, kt_Checker_dict⟩⟩
  have F_Program_init := fun_mk (st := s_Program_init) l_Program_init c_Program_init k_Program_init
  have b_Program_init := F_Program_init.binds (ps := ["self", "shape", "blocks", "body"]) fun _ _ _ _ _ _ us hl => Fm.len_4 (fun _ _ _ _ => rfl) us hl
  have M_Program_init : Meth K C_Program "__init__" f_Program_init := ⟨a_Program_init, i_Program_init, k_Program_init⟩
  have CL_Program : Cls K C_Program := ⟨pg_Program, hd_Program, po_Program, sa_Program⟩
  have XX_Program : InsX K C_Program := ⟨CL_Program, ha_Program, hn_Program, ht_Program, hm_Program, by simp only [List.mem_cons, List.not_mem_nil, or_false, forall_eq_or_imp, forall_eq]; exact ⟨kt_Program_NoneType, kt_Program_bool, kt_Program_int, kt_Program_str, kt_Program_list, kt_Program_tuple, kt_Program_dict⟩⟩
  have F_BadShape_init := fun_mk (st := s_BadShape_init) l_BadShape_init c_BadShape_init k_BadShape_init
  have b_BadShape_init := F_BadShape_init.binds (ps := ["self", "at"]) fun _ _ _ _ _ _ us hl => Fm.len_2 (fun _ _ => rfl) us hl
  have O_BadShape : OexC K C_BadShape := ⟨⟨_, _, _, _, _, _, _, _, _, _, _, _, _, _, _, x_BadShape, (by show PySem.HandSPX.refsVE [.type "ValueError", .type "Exception", .type "BaseException", .type "object"] = true; decide +kernel)⟩, s_BadShape, e_BadShape, ty_BadShape, kk_BadShape⟩
  have ER_BadShape : ∀ base, Err l.prog w K mg base "BadShape" "at" C_BadShape := fun base => ⟨O_BadShape, PySem.W.mg_of X G m_BadShape, ⟨_, _, a_BadShape_init, t_BadShape_init, ok_BadShape_init F_BadShape_init O_BadShape no_BadShape, b_BadShape_init⟩, no_BadShape, ⟨ga_BadShape, gg_BadShape, e_BadShape, hd_BadShape⟩⟩
  have F_BadMove_init := fun_mk (st := s_BadMove_init) l_BadMove_init c_BadMove_init k_BadMove_init
  have b_BadMove_init := F_BadMove_init.binds (ps := ["self", "value"]) fun _ _ _ _ _ _ us hl => Fm.len_2 (fun _ _ => rfl) us hl
  have O_BadMove : OexC K C_BadMove := ⟨⟨_, _, _, _, _, _, _, _, _, _, _, _, _, _, _, x_BadMove, (by show PySem.HandSPX.refsVE [.type "ValueError", .type "Exception", .type "BaseException", .type "object"] = true; decide +kernel)⟩, s_BadMove, e_BadMove, ty_BadMove, kk_BadMove⟩
  have ER_BadMove : ∀ base, Err l.prog w K mg base "BadMove" "value" C_BadMove := fun base => ⟨O_BadMove, PySem.W.mg_of X G m_BadMove, ⟨_, _, a_BadMove_init, t_BadMove_init, ok_BadMove_init F_BadMove_init O_BadMove no_BadMove, b_BadMove_init⟩, no_BadMove, ⟨ga_BadMove, gg_BadMove, e_BadMove, hd_BadMove⟩⟩
  have F_law := fun_mk (st := s_law) l_law c_law k_law
  refine ⟨PySem.W.fnOf "law" "law" (defArgs s_law) (defBody s_law) (defScope s_law) .none kV_law dc_law pm_law an_law cd_law ct_law, fun s v => .of_eq rfl, fun base _ _ => ?_⟩
  have T : ShCls K mg C_Shape := ⟨CL_Shape, na_Shape_tables, PySem.W.mg_of X G m_Shape⟩
  have BQ : BiQ mg := ⟨B, PySem.W.mg_none_of X G z_any⟩
  have hzip := PySem.W.mg_none_of X G z_zip
  have nf0 : ∀ C : Addr, PySem.W.notFirst K C (.ref C) = true := fun C => by simp [PySem.W.notFirst]
  have PT : Parts K w mg d_PARTS es_PARTS n_PARTS := ⟨PySem.W.mg_of X G a_PARTS, ⟨l_PARTS, q_PARTS, o_PARTS⟩, ⟨_, t_scan⟩, ⟨_, t_run⟩, ⟨_, t_seek⟩, ⟨_, t_each⟩, ⟨_, t_rise⟩, ⟨_, t_look⟩, ⟨_, t_same⟩, ⟨_, t_put⟩⟩
  have G_is_row : ∀ base, Has l.prog w K mg base CX0 "is_row" ["thing"] 1 spIsRow := fun base => ok_is_row B D_is_row
  have G_is_integer : Has l.prog w K mg base CX0 "is_integer" ["thing"] 1 spInt := ok_is_integer B D_is_integer
  have G_is_value : Has l.prog w K mg base CX0 "is_value" ["thing"] 2 spIsVal := ok_is_value B N_MOST_VALUE D_is_value G_is_integer
  have G_is_name : ∀ base, Has l.prog w K mg base CX0 "is_name" ["thing"] 1 spIsName := fun base => ok_is_name B N_LETTERS D_is_name
  have G_are_names : ∀ base, Has l.prog w K mg base CX0 "are_names" ["thing", "least", "most"] 2 spAreNames := fun base => ok_are_names B D_are_names (G_is_row base) (G_is_name base)
  have G_is_table : ∀ base, Has l.prog w K mg base CX0 "is_table" ["thing"] 3 spIsTable := fun base => ok_is_table B D_is_table (G_is_name base) (G_are_names base)
  have GIs : FnOk l.prog w K mg base (L2.CX l.prog w) 4 f_Shape_init _ ["self", "tables"] (spShapeI C_Shape C_BadShape) := ok_shape_init B F_Shape_init T ER_BadShape G_is_row G_is_table
  have MS : Mk K C_Shape f_Shape_init := ⟨mk_Shape, a_Shape_init, i_Shape_init, kc_Shape⟩
  have MP : Mk K C_Program f_Program_init := ⟨mk_Program, a_Program_init, i_Program_init, kc_Program⟩
  have MC : Mk K C_Checker f_Checker_init := ⟨mk_Checker, a_Checker_init, i_Checker_init, kc_Checker⟩
  have G_has_form : Has l.prog w K mg base CX0 "has_form" ["statement"] 2 spForm := ok_has_form B D_has_form PT N_MOST_BODY (G_is_row base)
  have Cread : FnOk l.prog w K mg base CX0 1 f_Checker_is_read _ ["self", "thing", "around", "sums_too"] spRead := ok_is_read B F_Checker_is_read
  have Cterm : FnOk l.prog w K mg base CX0 3 f_Checker_is_term _ ["self", "thing", "around"] (spTerm C_Checker) := ok_is_term F_Checker_is_term CL_Checker M_Checker_is_read Cread b_Checker_is_read G_is_value
  have Cterms : FnOk l.prog w K mg base CX0 4 f_Checker_are_terms _ ["self", "thing", "many", "around"] (spTerms C_Checker) := ok_are_terms B F_Checker_are_terms CL_Checker M_Checker_is_term Cterm b_Checker_is_term (G_is_row base)
  have Cprod : FnOk l.prog w K mg base CX0 3 f_Checker_is_product _ ["self", "thing", "around"] (spProduct C_Checker) := ok_is_product BQ F_Checker_is_product CL_Checker M_Checker_is_read Cread b_Checker_is_read N_MOST_MULTIPLE (G_is_row base) G_is_integer
  have Ctab : FnOk l.prog w K mg base CX0 4 f_Checker_fits_table _ ["self", "statement", "around"] (spFitsTab C_Checker) := ok_fits_table B F_Checker_fits_table CL_Checker na_Checker_tables M_Checker_is_term Cterm b_Checker_is_term
  have Cent : FnOk l.prog w K mg base CX0 5 f_Checker_fits_entry _ ["self", "statement", "top", "around"] (spFitsEnt C_Checker) := ok_fits_entry B F_Checker_fits_entry CL_Checker na_Checker_blocks na_Checker_putters na_Checker_named M_Checker_are_terms Cterms b_Checker_are_terms
  have Cput : FnOk l.prog w K mg base CX0 5 f_Checker_fits_put _ ["self", "statement", "top", "around"] (spFitsPut C_Checker) := ok_fits_put B F_Checker_fits_put CL_Checker na_Checker_blocks na_Checker_putters na_Checker_named M_Checker_are_terms Cterms b_Checker_are_terms M_Checker_is_product Cprod b_Checker_is_product (G_is_row base)
  have Cfits : FnOk l.prog w K mg base CX0 6 f_Checker_fits _ ["self", "statement", "top", "around"] (spFits C_Checker) := ok_fits B F_Checker_fits CL_Checker M_Checker_is_term Cterm b_Checker_is_term M_Checker_fits_put Cput b_Checker_fits_put M_Checker_fits_table Ctab b_Checker_fits_table M_Checker_fits_entry Cent b_Checker_fits_entry (G_is_name base)
  have Cfirst : FnOk l.prog w K mg base CX0 (8 + 7) f_Checker_first_wrong _ ["self", "statement", "path", "around"] (spFirst C_Checker 8) := ok_first B F_Checker_first_wrong CL_Checker na_Checker_seen N_MOST_DEEP N_MOST_STATEMENTS G_has_form M_Checker_fits Cfits b_Checker_fits M_Checker_first_wrong b_Checker_first_wrong 8
  have Cinit : FnOk l.prog w K mg base CX0 1 f_Checker_init _ ["self", "shape", "blocks"] (spCkI C_Checker C_Shape) := ok_checker_init B F_Checker_init T CL_Checker na_Checker_tables na_Checker_blocks na_Checker_putters na_Checker_named na_Checker_seen
  have G_is_block : Has l.prog w K mg base CX0 "is_block" ["thing"] 3 spIsBlk := ok_is_block B D_is_block (G_is_name base) (G_are_names base)
  have G_kept_adds : Has l.prog w K mg base CX0 "kept_adds" ["adds"] 1 spKeptAdds := ok_kept_adds B D_kept_adds
  have G_kept_statement : Has l.prog w K mg base CX0 "kept_statement" ["statement"] (8 + 2) (spKept 8) := ok_kept_statement B D_kept_statement G_kept_adds 8
  have G_kept_blocks : Has l.prog w K mg base CX0 "kept_blocks" ["shape", "blocks"] 4 (spKeptBlks C_Shape) := ok_kept_blocks B D_kept_blocks T N_MOST_BLOCKS (G_is_row base) G_is_block
  have GP : FnOk l.prog w K mg base CX0 (8 + 8) f_Program_init _ ["self", "shape", "blocks", "body"] (spProgI C_Program C_Shape 8) := ok_program_init B F_Program_init T XX_Shape CL_Program na_Program_shape na_Program_blocks na_Program_body CL_Checker N_MOST_TOPS (PySem.W.mg_of X G m_Checker) MC Cinit b_Checker_init M_Checker_first_wrong 8 Cfirst b_Checker_first_wrong (G_is_row base) G_kept_blocks G_kept_statement
  have G_law_pick : Has l.prog w K mg base CX0 "_law_pick" ["_law_bag_here", "_law_many"] 1 spPick := ok_pick B D_law_pick
  have G_law_name : Has l.prog w K mg base CX0 "_law_name" ["_law_bag_here", "_law_taken"] 2 spName := ok_name B D_law_name G_law_pick
  have G_law_value : Has l.prog w K mg base CX0 "_law_value" ["_law_bag_here"] 2 spValue := ok_value B D_law_value G_law_pick
  have G_law_tables : Has l.prog w K mg base CX0 "_law_tables" ["_law_bag_here"] 3 spTables := ok_tables B D_law_tables G_law_pick G_law_name
  have G_law_blocks : Has l.prog w K mg base CX0 "_law_blocks" ["_law_bag_here", "_law_tables_here", "_law_many"] 3 spBlocks := ok_blocks B D_law_blocks G_law_pick G_law_name
  have G_law_term : Has l.prog w K mg base CX0 "_law_term" ["_law_bag_here", "_law_scope"] 3 spLTerm := ok_lterm B D_law_term G_law_pick G_law_value
  have G_law_product : Has l.prog w K mg base CX0 "_law_product" ["_law_bag_here", "_law_scope"] 2 spLProduct := ok_lproduct B (PySem.W.mg_none_of X G z_min) D_law_product G_law_pick
  have G_law_put : Has l.prog w K mg base CX0 "_law_put" ["_law_bag_here", "_law_block", "_law_scope"] 4 spLPut := ok_lput B D_law_put G_law_pick G_law_term G_law_product
  have G_law_opening : Has l.prog w K mg base CX0 "_law_opening" ["_law_bag_here", "_law_tables_here", "_law_readable", "_law_scope"] 4 spOpeningG := ok_openingG B D_law_opening G_law_pick G_law_name G_law_term
  have G_law_branch : Has l.prog w K mg base CX0 "_law_branch" ["_law_bag_here", "_law_tables_here", "_law_readable", "_law_scope", "_law_block"] 5 spBranch := ok_branch B D_law_branch G_law_pick G_law_opening G_law_put
  have G_law_top : Has l.prog w K mg base CX0 "_law_top" ["_law_bag_here", "_law_tables_here", "_law_readable", "_law_block", "_law_others"] 6 spTop := ok_top B (PySem.W.mg_none_of X G z_reversed) D_law_top G_law_pick G_law_opening G_law_term G_law_put G_law_branch
  have G_law_open : Has l.prog w K mg base CX0 "_law_open" ["_law_bag_here", "_law_tables_here", "_law_readable", "_law_openings", "_law_scope"] 5 spOpen := ok_open B D_law_open G_law_opening
  have G_law_around : Has l.prog w K mg base CX0 "_law_around" ["_law_bag_here", "_law_tables_here", "_law_readable", "_law_least", "_law_most"] 6 spAround := ok_around B D_law_around G_law_pick G_law_open G_law_term
  have G_law_idle_put : Has l.prog w K mg base CX0 "_law_idle_put" ["_law_bag_here", "_law_block"] 3 spIdle := ok_idle_put B D_law_idle_put G_law_value
  have G_law_wrapped : Has l.prog w K mg base CX0 "_law_wrapped" ["_law_openings", "_law_statement", "_law_beside", "_law_at", "_law_side"] 1 spWrapped := ok_wrapped B (PySem.W.mg_none_of X G z_reversed) D_law_wrapped
  have G_is_index : Has l.prog w K mg base CX0 "is_index" ["thing"] 1 spIsIdx := ok_is_index B D_is_index
  have G_statement_at : Has l.prog w K mg base CX0 "statement_at" ["body", "path"] 2 spStAt := ok_statement_at B D_statement_at G_is_index
  have G_replaced : Has l.prog w K mg base CX0 "replaced" ["body", "path", "statement"] 12 (spRepl 10) := ok_replaced B D_replaced 10
  have G_names : Has l.prog w K mg base CX0 "names" ["term", "variable"] 1 spNames := ok_names B D_names
  have G_law_is_program : Has l.prog w K mg base CX0 "_law_is_program" ["_law_thing", "_law_tables_here", "_law_blocks_here", "_law_body"] 1 (spIsProg C_Program C_Shape 8) := ok_is_program B D_law_is_program (PySem.W.mg_of X G m_Program) (PySem.W.mg_of X G m_Shape) XX_Program XX_Shape T CL_Program na_Program_shape na_Program_blocks na_Program_body
  have G_body_out : Has l.prog w K mg base CX0 "body_out" ["body", "path"] 13 NoSp := Dfn.none D_body_out
  have G_body_seek : Has l.prog w K mg base CX0 "body_seek" ["body", "path"] 13 NoSp := Dfn.none D_body_seek
  have G_body_scan : Has l.prog w K mg base CX0 "body_scan" ["body", "path"] 13 NoSp := Dfn.none D_body_scan
  have G_top_body : Has l.prog w K mg base CX0 "top_body" ["body", "kind", "at"] 13 NoSp := Dfn.none D_top_body
  have G_after_hold : Has l.prog w K mg base CX0 "after_hold" ["program", "path", "name"] 13 NoSp := Dfn.none D_after_hold
  have LK : LoopsK K mg d_LOOPS := ⟨PySem.W.mg_of X G a_LOOPS, fun _ => .inr ⟨_, _, _, l_LOOPS, rfl, rfl, z_LOOPS, v_LOOPS⟩⟩
  have G_body_turn : Has l.prog w K mg base CX0 "body_turn" ["body", "path"] 13 spTurnB := ok_body_turn B LK D_body_turn G_statement_at G_names G_replaced
  have G_after_move : Has l.prog w K mg base CX0 "after_move" ["program", "move"] 14 (spAfterG C_Program C_Shape PreT) := ok_after_turn B D_after_move CL_Program na_Program_blocks na_Program_body G_body_out G_body_turn G_body_seek G_body_scan G_top_body G_after_hold
  have G_moved : Has l.prog w K mg base (L2.CX l.prog w) "moved" ["program", "move"] 18 (spMovedG C_Program C_Shape C_BadMove PreT) := ok_movedG preT_ok B D_moved (PySem.W.mg_of X G m_Program) XX_Program CL_Program na_Program_shape (ER_BadMove base) MP GP b_Program_init G_after_move
  have G_law_after : Has l.prog w K mg base CX0 "_law_after" ["_law_program", "_law_move"] 19 (spAfterLG C_Program C_Shape PreT) := ok_lawafterG B D_law_after G_moved (PySem.W.mg_of X G m_BadMove) xm_BadMove_BadMove (ER_BadMove base).xf (ER_BadMove base).no
  have G_law_leads : Has l.prog w K mg base CX0 "_law_leads" ["_law_program", "_law_tables_here", "_law_blocks_here", "_law_body", "_law_move", "_law_due_blocks", "_law_due"] 20 (spLeadsG C_Program C_Shape PreT) := ok_leadsG preT_ok B D_law_leads G_law_after G_law_is_program
  have G_law_of : Has l.prog w K mg base CX0 "_law_of" ["_law_term_here", "_law_variable"] 1 spNames := ok_lawof B D_law_of
  have G_law_loop : Has l.prog w K mg base CX0 "_law_loop" ["_law_bag_here", "_law_tables_here", "_law_held", "_law_scope"] 5 spLoop := ok_loop B D_law_loop G_law_pick G_law_opening G_law_term
  exact ok_law B F_law T (PySem.W.mg_of X G m_Program) MS GIs b_Shape_init MP GP b_Program_init (ok_bag B D_law_bag) G_law_pick G_law_tables G_law_blocks G_law_put G_law_top G_law_around G_law_of G_law_idle_put G_law_loop G_law_wrapped G_moved G_law_leads
theorem walk {l : PySem.W.OpenLaw} {q : Program} {loose : List Str} {XP : (Str → Option Value) → Heap → Prop} {YP : World → Heap → Prop} {d : DefRec} {K : Params → PySem.W.Frag} (hn : l.most = some 63) (hdf : d.params.defaults = [])
    (hY : ∀ (w : World) (h : Heap), YP w h → (K w.params).In h)
    (F : ∀ (w : World) (mg : Str → Option Value) (fa : Addr) (h : Heap), (K w.params).In h → h.Ns mainGlobals mg → mg d.name = some (.ref fa) →
      ∃ fd : FuncData, (∀ (s : Shared) (u : Value), BindsTo s fd ⟨[u], []⟩ [("_law_script", u)]) ∧ ∀ base : Heap, (K w.params).In base → base.Ns mainGlobals mg → FnOk l.prog w (K w.params) mg base CX0 21 fa fd ["_law_script"] (spLaw (K w.params))) :
    PySem.W.WalkO q loose XP YP l.row.toRowW d [] (fun f vs => PySem.call f vs) :=
  L2.walk_of (n := 63) (k := 21) (x := "_law_script") (CX := fun _ => CX0) (sp := fun w => spLaw (K w.params)) hn (by decide) hdf ⟨rfl, by decide, by decide⟩ hY F (fun _ _ a ns hl _ hS => ⟨a, ns, rfl, hS, fun _ => rfl⟩) fun _ _ _ _ _ z => z
end Fm
open PySem PySem.W PyProof.Rows
set_option maxRecDepth 100000 in
set_option maxHeartbeats 0 in
theorem PySem.Challenge.cw_firstmet_k76_turn_holds : PySem.Challenge.rw_firstmet_k76_turn.Holds := by
  w_on; o_law
  refine Fm.hd_open (by first | assumption | decide +kernel) ?hw ?hc
  case hw => w_witness2
  unfold Fm.hdH
  k_fill
  refine Fm.walk (l := PySem.Challenge.rw_firstmet_k76_turn) (K := Fm.kh.heap_1) rfl (by first | rfl | kernel_rfl) (fun w h Y => Fm.head_in Y) ?F
  case F =>
    intro w mg fa h KX G hmg0
    have hmg : mg ("law" : PySem.Str) = some (.ref fa) := by
      have e : (HandSHeadRun.topDef Fm.hdR.prog 80).name = ("law" : PySem.Str) := by kernel_rfl
      rw [← e]
      exact hmg0
    refine' Fm.all_mk KX G hmg ?z_len ?z_list ?z_tuple ?z_isinstance ?z_int ?z_range ?z_max ?z_all ?z_bool ?z_dict ?z_str ?z_enumerate ?z_zip ?z_any ?z_min ?z_reversed ?n_LETTERS ?n_MOST_VALUE ?n_MOST_BLOCKS ?n_MOST_TOPS ?n_MOST_BODY ?n_MOST_DEEP ?n_MOST_STATEMENTS ?n_MOST_MULTIPLE ?a_is_row ?l_is_row ?c_is_row ?k_is_row ?a_is_integer ?l_is_integer ?c_is_integer ?k_is_integer ?a_is_value ?l_is_value ?c_is_value ?k_is_value ?a_is_name ?l_is_name ?c_is_name ?k_is_name ?a_are_names ?l_are_names ?c_are_names ?k_are_names ?a_is_table ?l_is_table ?c_is_table ?k_is_table ?a_has_form ?l_has_form ?c_has_form ?k_has_form ?a_is_block ?l_is_block ?c_is_block ?k_is_block ?a_kept_adds ?l_kept_adds ?c_kept_adds ?k_kept_adds ?a_kept_statement ?l_kept_statement ?c_kept_statement ?k_kept_statement ?a_kept_blocks ?l_kept_blocks ?c_kept_blocks ?k_kept_blocks ?a_law_bag ?l_law_bag ?c_law_bag ?k_law_bag ?a_law_pick ?l_law_pick ?c_law_pick ?k_law_pick ?a_law_name ?l_law_name ?c_law_name ?k_law_name ?a_law_value ?l_law_value ?c_law_value ?k_law_value ?a_law_tables ?l_law_tables ?c_law_tables ?k_law_tables ?a_law_blocks ?l_law_blocks ?c_law_blocks ?k_law_blocks ?a_law_term ?l_law_term ?c_law_term ?k_law_term ?a_law_product ?l_law_product ?c_law_product ?k_law_product ?a_law_put ?l_law_put ?c_law_put ?k_law_put ?a_law_opening ?l_law_opening ?c_law_opening ?k_law_opening ?a_law_branch ?l_law_branch ?c_law_branch ?k_law_branch ?a_law_top ?l_law_top ?c_law_top ?k_law_top ?a_law_open ?l_law_open ?c_law_open ?k_law_open ?a_law_around ?l_law_around ?c_law_around ?k_law_around ?a_law_idle_put ?l_law_idle_put ?c_law_idle_put ?k_law_idle_put ?a_law_wrapped ?l_law_wrapped ?c_law_wrapped ?k_law_wrapped ?a_law_after ?l_law_after ?c_law_after ?k_law_after ?a_law_is_program ?l_law_is_program ?c_law_is_program ?k_law_is_program ?a_law_leads ?l_law_leads ?c_law_leads ?k_law_leads ?a_is_index ?l_is_index ?c_is_index ?k_is_index ?a_statement_at ?l_statement_at ?c_statement_at ?k_statement_at ?a_replaced ?l_replaced ?c_replaced ?k_replaced ?a_names ?l_names ?c_names ?k_names ?a_body_out ?l_body_out ?c_body_out ?k_body_out ?a_body_turn ?l_body_turn ?c_body_turn ?k_body_turn ?a_body_seek ?l_body_seek ?c_body_seek ?k_body_seek ?a_body_scan ?l_body_scan ?c_body_scan ?k_body_scan ?a_top_body ?l_top_body ?c_top_body ?k_top_body ?a_after_hold ?l_after_hold ?c_after_hold ?k_after_hold ?a_after_move ?l_after_move ?c_after_move ?k_after_move ?a_moved ?l_moved ?c_moved ?k_moved ?a_law_of ?l_law_of ?c_law_of ?k_law_of ?a_law_loop ?l_law_loop ?c_law_loop ?k_law_loop ?m_Shape ?a_Shape_init ?l_Shape_init ?c_Shape_init ?k_Shape_init ?i_Shape_init ?pg_Shape ?hd_Shape ?po_Shape ?sa_Shape ?mk_Shape ?kc_Shape ?na_Shape_tables ?ha_Shape ?hn_Shape ?ht_Shape ?hm_Shape ?ne_Shape ?ob_Shape ?kt_Shape_NoneType ?nf_Shape_NoneType ?kt_Shape_bool ?nf_Shape_bool ?kt_Shape_int ?nf_Shape_int ?kt_Shape_str ?nf_Shape_str ?kt_Shape_list ?nf_Shape_list ?kt_Shape_tuple ?nf_Shape_tuple ?kt_Shape_dict ?nf_Shape_dict ?m_Checker ?a_Checker_init ?l_Checker_init ?c_Checker_init ?k_Checker_init ?i_Checker_init ?a_Checker_first_wrong ?l_Checker_first_wrong ?c_Checker_first_wrong ?k_Checker_first_wrong ?i_Checker_first_wrong ?a_Checker_fits ?l_Checker_fits ?c_Checker_fits ?k_Checker_fits ?i_Checker_fits ?a_Checker_fits_table ?l_Checker_fits_table ?c_Checker_fits_table ?k_Checker_fits_table ?i_Checker_fits_table ?a_Checker_fits_entry ?l_Checker_fits_entry ?c_Checker_fits_entry ?k_Checker_fits_entry ?i_Checker_fits_entry ?a_Checker_fits_put ?l_Checker_fits_put ?c_Checker_fits_put ?k_Checker_fits_put ?i_Checker_fits_put ?a_Checker_is_read ?l_Checker_is_read ?c_Checker_is_read ?k_Checker_is_read ?i_Checker_is_read ?a_Checker_is_term ?l_Checker_is_term ?c_Checker_is_term ?k_Checker_is_term ?i_Checker_is_term ?a_Checker_are_terms ?l_Checker_are_terms ?c_Checker_are_terms ?k_Checker_are_terms ?i_Checker_are_terms ?a_Checker_is_product ?l_Checker_is_product ?c_Checker_is_product ?k_Checker_is_product ?i_Checker_is_product ?pg_Checker ?hd_Checker ?po_Checker ?sa_Checker ?mk_Checker ?kc_Checker ?na_Checker_tables ?na_Checker_blocks ?na_Checker_putters ?na_Checker_named ?na_Checker_seen ?ha_Checker ?hn_Checker ?ht_Checker ?hm_Checker ?ne_Checker ?ob_Checker ?kt_Checker_NoneType ?nf_Checker_NoneType ?kt_Checker_bool ?nf_Checker_bool ?kt_Checker_int ?nf_Checker_int ?kt_Checker_str ?nf_Checker_str ?kt_Checker_list ?nf_Checker_list ?kt_Checker_tuple ?nf_Checker_tuple ?kt_Checker_dict ?nf_Checker_dict ?m_Program ?a_Program_init ?l_Program_init ?c_Program_init ?k_Program_init ?i_Program_init ?pg_Program ?hd_Program ?po_Program ?sa_Program ?mk_Program ?kc_Program ?na_Program_shape ?na_Program_blocks ?na_Program_body ?ha_Program ?hn_Program ?ht_Program ?hm_Program ?ne_Program ?ob_Program ?kt_Program_NoneType ?nf_Program_NoneType ?kt_Program_bool ?nf_Program_bool ?kt_Program_int ?nf_Program_int ?kt_Program_str ?nf_Program_str ?kt_Program_list ?nf_Program_list ?kt_Program_tuple ?nf_Program_tuple ?kt_Program_dict ?nf_Program_dict ?m_BadShape ?x_BadShape ?s_BadShape ?ga_BadShape ?gg_BadShape ?no_BadShape ?a_BadShape_init ?l_BadShape_init ?c_BadShape_init ?k_BadShape_init ?t_BadShape_init ?e_BadShape ?ty_BadShape ?kk_BadShape ?hd_BadShape ?m_BadMove ?x_BadMove ?s_BadMove ?ga_BadMove ?gg_BadMove ?no_BadMove ?a_BadMove_init ?l_BadMove_init ?c_BadMove_init ?k_BadMove_init ?t_BadMove_init ?e_BadMove ?ty_BadMove ?kk_BadMove ?hd_BadMove ?a_PARTS ?l_PARTS ?q_PARTS ?o_PARTS ?t_scan ?t_run ?t_seek ?t_each ?t_rise ?t_look ?t_same ?t_put ?xm_BadMove_BadMove ?a_LOOPS ?l_LOOPS ?v_LOOPS ?z_LOOPS ?a_law ?l_law ?c_law ?k_law
    (case z_len => k_is)
    (case z_list => k_is)
    (case z_tuple => k_is)
    (case z_isinstance => k_is)
    (case z_int => k_is)
    (case z_range => k_is)
    (case z_max => k_is)
    (case z_all => k_is)
    (case z_bool => k_is)
    (case z_dict => k_is)
    (case z_str => k_is)
    (case z_enumerate => k_is)
    (case z_zip => k_is)
    (case z_any => k_is)
    (case z_min => k_is)
    (case z_reversed => k_is)
    (case n_LETTERS => k_is)
    (case n_MOST_VALUE => k_is)
    (case n_MOST_BLOCKS => k_is)
    (case n_MOST_TOPS => k_is)
    (case n_MOST_BODY => k_is)
    (case n_MOST_DEEP => k_is)
    (case n_MOST_STATEMENTS => k_is)
    (case n_MOST_MULTIPLE => k_is)
    (case a_is_row => k_is)
    (case l_is_row => k_is)
    (case c_is_row => k_is)
    (case k_is_row => k_is)
    (case a_is_integer => k_is)
    (case l_is_integer => k_is)
    (case c_is_integer => k_is)
    (case k_is_integer => k_is)
    (case a_is_value => k_is)
    (case l_is_value => k_is)
    (case c_is_value => k_is)
    (case k_is_value => k_is)
    (case a_is_name => k_is)
    (case l_is_name => k_is)
    (case c_is_name => k_is)
    (case k_is_name => k_is)
    (case a_are_names => k_is)
    (case l_are_names => k_is)
    (case c_are_names => k_is)
    (case k_are_names => k_is)
    (case a_is_table => k_is)
    (case l_is_table => k_is)
    (case c_is_table => k_is)
    (case k_is_table => k_is)
    (case a_has_form => k_is)
    (case l_has_form => k_is)
    (case c_has_form => k_is)
    (case k_has_form => k_is)
    (case a_is_block => k_is)
    (case l_is_block => k_is)
    (case c_is_block => k_is)
    (case k_is_block => k_is)
    (case a_kept_adds => k_is)
    (case l_kept_adds => k_is)
    (case c_kept_adds => k_is)
    (case k_kept_adds => k_is)
    (case a_kept_statement => k_is)
    (case l_kept_statement => k_is)
    (case c_kept_statement => k_is)
    (case k_kept_statement => k_is)
    (case a_kept_blocks => k_is)
    (case l_kept_blocks => k_is)
    (case c_kept_blocks => k_is)
    (case k_kept_blocks => k_is)
    (case a_law_bag => k_is)
    (case l_law_bag => k_is)
    (case c_law_bag => k_is)
    (case k_law_bag => k_is)
    (case a_law_pick => k_is)
    (case l_law_pick => k_is)
    (case c_law_pick => k_is)
    (case k_law_pick => k_is)
    (case a_law_name => k_is)
    (case l_law_name => k_is)
    (case c_law_name => k_is)
    (case k_law_name => k_is)
    (case a_law_value => k_is)
    (case l_law_value => k_is)
    (case c_law_value => k_is)
    (case k_law_value => k_is)
    (case a_law_tables => k_is)
    (case l_law_tables => k_is)
    (case c_law_tables => k_is)
    (case k_law_tables => k_is)
    (case a_law_blocks => k_is)
    (case l_law_blocks => k_is)
    (case c_law_blocks => k_is)
    (case k_law_blocks => k_is)
    (case a_law_term => k_is)
    (case l_law_term => k_is)
    (case c_law_term => k_is)
    (case k_law_term => k_is)
    (case a_law_product => k_is)
    (case l_law_product => k_is)
    (case c_law_product => k_is)
    (case k_law_product => k_is)
    (case a_law_put => k_is)
    (case l_law_put => k_is)
    (case c_law_put => k_is)
    (case k_law_put => k_is)
    (case a_law_opening => k_is)
    (case l_law_opening => k_is)
    (case c_law_opening => k_is)
    (case k_law_opening => k_is)
    (case a_law_branch => k_is)
    (case l_law_branch => k_is)
    (case c_law_branch => k_is)
    (case k_law_branch => k_is)
    (case a_law_top => k_is)
    (case l_law_top => k_is)
    (case c_law_top => k_is)
    (case k_law_top => k_is)
    (case a_law_open => k_is)
    (case l_law_open => k_is)
    (case c_law_open => k_is)
    (case k_law_open => k_is)
    (case a_law_around => k_is)
    (case l_law_around => k_is)
    (case c_law_around => k_is)
    (case k_law_around => k_is)
    (case a_law_idle_put => k_is)
    (case l_law_idle_put => k_is)
    (case c_law_idle_put => k_is)
    (case k_law_idle_put => k_is)
    (case a_law_wrapped => k_is)
    (case l_law_wrapped => k_is)
    (case c_law_wrapped => k_is)
    (case k_law_wrapped => k_is)
    (case a_law_after => k_is)
    (case l_law_after => k_is)
    (case c_law_after => k_is)
    (case k_law_after => k_is)
    (case a_law_is_program => k_is)
    (case l_law_is_program => k_is)
    (case c_law_is_program => k_is)
    (case k_law_is_program => k_is)
    (case a_law_leads => k_is)
    (case l_law_leads => k_is)
    (case c_law_leads => k_is)
    (case k_law_leads => k_is)
    (case a_is_index => k_is)
    (case l_is_index => k_is)
    (case c_is_index => k_is)
    (case k_is_index => k_is)
    (case a_statement_at => k_is)
    (case l_statement_at => k_is)
    (case c_statement_at => k_is)
    (case k_statement_at => k_is)
    (case a_replaced => k_is)
    (case l_replaced => k_is)
    (case c_replaced => k_is)
    (case k_replaced => k_is)
    (case a_names => k_is)
    (case l_names => k_is)
    (case c_names => k_is)
    (case k_names => k_is)
    (case a_body_out => k_is)
    (case l_body_out => k_is)
    (case c_body_out => k_is)
    (case k_body_out => k_is)
    (case a_body_turn => k_is)
    (case l_body_turn => k_is)
    (case c_body_turn => k_is)
    (case k_body_turn => k_is)
    (case a_body_seek => k_is)
    (case l_body_seek => k_is)
    (case c_body_seek => k_is)
    (case k_body_seek => k_is)
    (case a_body_scan => k_is)
    (case l_body_scan => k_is)
    (case c_body_scan => k_is)
    (case k_body_scan => k_is)
    (case a_top_body => k_is)
    (case l_top_body => k_is)
    (case c_top_body => k_is)
    (case k_top_body => k_is)
    (case a_after_hold => k_is)
    (case l_after_hold => k_is)
    (case c_after_hold => k_is)
    (case k_after_hold => k_is)
    (case a_after_move => k_is)
    (case l_after_move => k_is)
    (case c_after_move => k_is)
    (case k_after_move => k_is)
    (case a_moved => k_is)
    (case l_moved => k_is)
    (case c_moved => k_is)
    (case k_moved => k_is)
    (case a_law_of => k_is)
    (case l_law_of => k_is)
    (case c_law_of => k_is)
    (case k_law_of => k_is)
    (case a_law_loop => k_is)
    (case l_law_loop => k_is)
    (case c_law_loop => k_is)
    (case k_law_loop => k_is)
    (case m_Shape => k_is)
    (case a_Shape_init => k_is)
    (case l_Shape_init => k_is)
    (case c_Shape_init => k_is)
    (case k_Shape_init => k_is)
    (case i_Shape_init => k_is)
    (case pg_Shape => k_is)
    (case hd_Shape => k_is)
    (case po_Shape => k_is)
    (case sa_Shape => k_is)
    (case mk_Shape => k_is)
    (case kc_Shape => k_is)
    (case na_Shape_tables => k_is)
    (case ha_Shape => k_is)
    (case hn_Shape => k_is)
    (case ht_Shape => k_is)
    (case hm_Shape => k_is)
    (case ne_Shape => k_is)
    (case ob_Shape => k_is)
    (case kt_Shape_NoneType => (first | kit_is | rfl | kernel_rfl))
    (case nf_Shape_NoneType => k_is)
    (case kt_Shape_bool => (first | kit_is | rfl | kernel_rfl))
    (case nf_Shape_bool => k_is)
    (case kt_Shape_int => (first | kit_is | rfl | kernel_rfl))
    (case nf_Shape_int => k_is)
    (case kt_Shape_str => (first | kit_is | rfl | kernel_rfl))
    (case nf_Shape_str => k_is)
    (case kt_Shape_list => (first | kit_is | rfl | kernel_rfl))
    (case nf_Shape_list => k_is)
    (case kt_Shape_tuple => (first | kit_is | rfl | kernel_rfl))
    (case nf_Shape_tuple => k_is)
    (case kt_Shape_dict => (first | kit_is | rfl | kernel_rfl))
    (case nf_Shape_dict => k_is)
    (case m_Checker => k_is)
    (case a_Checker_init => k_is)
    (case l_Checker_init => k_is)
    (case c_Checker_init => k_is)
    (case k_Checker_init => k_is)
    (case i_Checker_init => k_is)
    (case a_Checker_first_wrong => k_is)
    (case l_Checker_first_wrong => k_is)
    (case c_Checker_first_wrong => k_is)
    (case k_Checker_first_wrong => k_is)
    (case i_Checker_first_wrong => k_is)
    (case a_Checker_fits => k_is)
    (case l_Checker_fits => k_is)
    (case c_Checker_fits => k_is)
    (case k_Checker_fits => k_is)
    (case i_Checker_fits => k_is)
    (case a_Checker_fits_table => k_is)
    (case l_Checker_fits_table => k_is)
    (case c_Checker_fits_table => k_is)
    (case k_Checker_fits_table => k_is)
    (case i_Checker_fits_table => k_is)
    (case a_Checker_fits_entry => k_is)
    (case l_Checker_fits_entry => k_is)
    (case c_Checker_fits_entry => k_is)
    (case k_Checker_fits_entry => k_is)
    (case i_Checker_fits_entry => k_is)
    (case a_Checker_fits_put => k_is)
    (case l_Checker_fits_put => k_is)
    (case c_Checker_fits_put => k_is)
    (case k_Checker_fits_put => k_is)
    (case i_Checker_fits_put => k_is)
    (case a_Checker_is_read => k_is)
    (case l_Checker_is_read => k_is)
    (case c_Checker_is_read => k_is)
    (case k_Checker_is_read => k_is)
    (case i_Checker_is_read => k_is)
    (case a_Checker_is_term => k_is)
    (case l_Checker_is_term => k_is)
    (case c_Checker_is_term => k_is)
    (case k_Checker_is_term => k_is)
    (case i_Checker_is_term => k_is)
    (case a_Checker_are_terms => k_is)
    (case l_Checker_are_terms => k_is)
    (case c_Checker_are_terms => k_is)
    (case k_Checker_are_terms => k_is)
    (case i_Checker_are_terms => k_is)
    (case a_Checker_is_product => k_is)
    (case l_Checker_is_product => k_is)
    (case c_Checker_is_product => k_is)
    (case k_Checker_is_product => k_is)
    (case i_Checker_is_product => k_is)
    (case pg_Checker => k_is)
    (case hd_Checker => k_is)
    (case po_Checker => k_is)
    (case sa_Checker => k_is)
    (case mk_Checker => k_is)
    (case kc_Checker => k_is)
    (case na_Checker_tables => k_is)
    (case na_Checker_blocks => k_is)
    (case na_Checker_putters => k_is)
    (case na_Checker_named => k_is)
    (case na_Checker_seen => k_is)
    (case ha_Checker => k_is)
    (case hn_Checker => k_is)
    (case ht_Checker => k_is)
    (case hm_Checker => k_is)
    (case ne_Checker => k_is)
    (case ob_Checker => k_is)
    (case kt_Checker_NoneType => (first | kit_is | rfl | kernel_rfl))
    (case nf_Checker_NoneType => k_is)
    (case kt_Checker_bool => (first | kit_is | rfl | kernel_rfl))
    (case nf_Checker_bool => k_is)
    (case kt_Checker_int => (first | kit_is | rfl | kernel_rfl))
    (case nf_Checker_int => k_is)
    (case kt_Checker_str => (first | kit_is | rfl | kernel_rfl))
    (case nf_Checker_str => k_is)
    (case kt_Checker_list => (first | kit_is | rfl | kernel_rfl))
    (case nf_Checker_list => k_is)
    (case kt_Checker_tuple => (first | kit_is | rfl | kernel_rfl))
    (case nf_Checker_tuple => k_is)
    (case kt_Checker_dict => (first | kit_is | rfl | kernel_rfl))
    (case nf_Checker_dict => k_is)
    (case m_Program => k_is)
    (case a_Program_init => k_is)
    (case l_Program_init => k_is)
    (case c_Program_init => k_is)
    (case k_Program_init => k_is)
    (case i_Program_init => k_is)
    (case pg_Program => k_is)
    (case hd_Program => k_is)
    (case po_Program => k_is)
    (case sa_Program => k_is)
    (case mk_Program => k_is)
    (case kc_Program => k_is)
    (case na_Program_shape => k_is)
    (case na_Program_blocks => k_is)
    (case na_Program_body => k_is)
    (case ha_Program => k_is)
    (case hn_Program => k_is)
    (case ht_Program => k_is)
    (case hm_Program => k_is)
    (case ne_Program => k_is)
    (case ob_Program => k_is)
    (case kt_Program_NoneType => (first | kit_is | rfl | kernel_rfl))
    (case nf_Program_NoneType => k_is)
    (case kt_Program_bool => (first | kit_is | rfl | kernel_rfl))
    (case nf_Program_bool => k_is)
    (case kt_Program_int => (first | kit_is | rfl | kernel_rfl))
    (case nf_Program_int => k_is)
    (case kt_Program_str => (first | kit_is | rfl | kernel_rfl))
    (case nf_Program_str => k_is)
    (case kt_Program_list => (first | kit_is | rfl | kernel_rfl))
    (case nf_Program_list => k_is)
    (case kt_Program_tuple => (first | kit_is | rfl | kernel_rfl))
    (case nf_Program_tuple => k_is)
    (case kt_Program_dict => (first | kit_is | rfl | kernel_rfl))
    (case nf_Program_dict => k_is)
    (case m_BadShape => k_is)
    (case x_BadShape => k_is)
    (case s_BadShape => k_is)
    (case ga_BadShape => k_is)
    (case gg_BadShape => k_is)
    (case no_BadShape => k_is)
    (case a_BadShape_init => k_is)
    (case l_BadShape_init => k_is)
    (case c_BadShape_init => k_is)
    (case k_BadShape_init => k_is)
    (case t_BadShape_init => k_is)
    (case e_BadShape => k_is)
    (case ty_BadShape => k_is)
    (case kk_BadShape => k_is)
    (case hd_BadShape => k_is)
    (case m_BadMove => k_is)
    (case x_BadMove => k_is)
    (case s_BadMove => k_is)
    (case ga_BadMove => k_is)
    (case gg_BadMove => k_is)
    (case no_BadMove => k_is)
    (case a_BadMove_init => k_is)
    (case l_BadMove_init => k_is)
    (case c_BadMove_init => k_is)
    (case k_BadMove_init => k_is)
    (case t_BadMove_init => k_is)
    (case e_BadMove => k_is)
    (case ty_BadMove => k_is)
    (case kk_BadMove => k_is)
    (case hd_BadMove => k_is)
    (case a_PARTS => k_is)
    (case l_PARTS => k_is)
    (case q_PARTS => exact ⟨⟨_, _, rfl, rfl⟩, ⟨_, _, rfl, rfl⟩, ⟨_, _, rfl, rfl⟩, ⟨_, _, rfl, rfl⟩, ⟨_, _, rfl, rfl⟩, ⟨_, _, rfl, rfl⟩, ⟨_, _, rfl, rfl⟩, ⟨_, _, rfl, rfl⟩, trivial⟩)
    (case o_PARTS => (first | rfl | decide | kernel_rfl))
    (case t_scan => k_is)
    (case t_run => k_is)
    (case t_seek => k_is)
    (case t_each => k_is)
    (case t_rise => k_is)
    (case t_look => k_is)
    (case t_same => k_is)
    (case t_put => k_is)
    (case xm_BadMove_BadMove => (first | rfl | kernel_rfl))
    (case a_LOOPS => k_is)
    (case l_LOOPS => k_is)
    (case v_LOOPS => exact .cons ⟨_, rfl⟩ (.cons ⟨_, rfl⟩ (.cons ⟨_, rfl⟩ (.cons ⟨_, rfl⟩ (.cons ⟨_, rfl⟩ .nil)))))
    (case z_LOOPS => (show 5 ≤ 16777216; decide))
    (case a_law => k_is)
    (case l_law => k_is)
    (case c_law => k_is)
    (case k_law => k_is)
