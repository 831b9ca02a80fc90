import PyProof.Rows.All
import Wide.All
import OpenK.AllK
import Wide.FinOn
import HandS.ForMost
import HandS.ForExc
import HandS.Codes
import HandS.IsInst
import HandS.Flow
import HandS.Walk
import HandS.Conv
import HandS.EndBits
import KE.GoesEnum
import HandS.ExcInit
import HandS.ExcField
import HandS.TupMul
import HandS.TupAny
import HandS.ExcOwn
import KE.RegKIsAll
import PySem.Challenge.RW_firstmet_k02_shapes_refused
set_option Elab.async false
set_option linter.all false
set_option maxRecDepth 100000
set_option maxHeartbeats 8000000
/-! Firstmet: short words over the hand layer: a def by its name, heaps that keep what stood, data. -/
namespace Fm
open PySem PySem.Spec PyProof.Rows L2
/-! ### a def of the top, by its name -/
def Dfn (K : PySem.W.Frag) (mg : Str → Option Value) (x : Str) (st : Stmt) (ps : List Str) : Prop :=
  ∃ f fd, Fun K x x st f fd ∧ mg x = some (.ref f) ∧ Binds K fd ps []
def Has (P : Program) (w : World) (K : PySem.W.Frag) (mg : Str → Option Value) (base : Heap) (CX : CXT) (x : Str) (ps : List Str) (k : Nat) (sp : Sp) : Prop :=
  ∃ f fd, FnOk P w K mg base CX k f fd ps sp ∧ mg x = some (.ref f) ∧ PySem.W.keepIn K (.ref f) = true ∧ Binds K fd ps []
section
variable {P : Program} {w : World} {K : PySem.W.Frag} {mg : Str → Option Value} {base : Heap}
theorem Dfn.has {x : Str} {st : Stmt} {N ps : List Str} {k : Nat} {sp : Sp} (D : Dfn K mg x st ps) (S : FnScope N ps (defScope st)) (len : ∀ vs H Q E, sp vs H Q E → vs.length = ps.length)
    (body : ∀ (f : Addr) (cdv : Value) (A : Around) (outer : List Env) (s : Shared) (H : Hp) (vs : List V) (Q : VK) (E : XK), Room k (A.deeper (envOfC x (defScope st) s.heap.objs.size f cdv)) → sp vs H Q E →
      ∃ t, PSs (cxOf CX0 P w K mg base N x (defScope st) f cdv A outer s H E).nox (defBody st) t ∧ t { nx := fun _ H' => Q .non H', rt := Q } (start N vs) H) :
    Has P w K mg base CX0 x ps (k + 1) sp := by
  obtain ⟨f, fd, F, g, b⟩ := D
  exact ⟨f, fd, F.ok S len (fun cdv A outer s H vs Q E => body f cdv A outer s H vs Q E), g, F.kp, b⟩
theorem Dfn.hasX {x : Str} {st : Stmt} {N ps : List Str} {k : Nat} {sp : Sp} (D : Dfn K mg x st ps) (S : FnScope N ps (defScope st)) (len : ∀ vs H Q E, sp vs H Q E → vs.length = ps.length)
    (body : ∀ (f : Addr) (cdv : Value) (A : Around) (outer : List Env) (s : Shared) (H : Hp) (vs : List V) (Q : VK) (E : XK), Room k (A.deeper (envOfC x (defScope st) s.heap.objs.size f cdv)) → sp vs H Q E →
      ∃ t, PSs (cxOf (L2.CX P w) P w K mg base N x (defScope st) f cdv A outer s H E) (defBody st) t ∧ t { nx := fun _ H' => Q .non H', rt := Q } (start N vs) H) :
    Has P w K mg base (L2.CX P w) x ps (k + 1) sp := by
  obtain ⟨f, fd, F, g, b⟩ := D
  exact ⟨f, fd, F.okX S len (fun cdv A outer s H vs Q E => body f cdv A outer s H vs Q E), g, F.kp, b⟩
theorem Has.mono {CX : CXT} {x : Str} {ps : List Str} {j k : Nat} {sp : Sp} (h : Has P w K mg base CX x ps j sp) (hj : j ≤ k) : Has P w K mg base CX x ps k sp := by
  obtain ⟨f, fd, F, r⟩ := h
  exact ⟨f, fd, F.mono hj, r⟩
theorem Has.imp {CX : CXT} {x : Str} {ps : List Str} {k : Nat} {sp sp' : Sp} (h : Has P w K mg base CX x ps k sp) (i : ∀ vs H Q E, sp' vs H Q E → sp vs H Q E) : Has P w K mg base CX x ps k sp' := by
  obtain ⟨f, fd, F, r⟩ := h
  exact ⟨f, fd, F.imp i, r⟩
end
/-- f(e, ..), f a def that raises nothing -/
theorem pe_has {X : Cx} {k : Nat} {x : Str} {ps : List Str} {sp : Sp} {e : Expr} {es : List Expr} {t : TA} {p pos : Pos} (h : Has X.prog X.w X.K X.mg X.base CX0 x ps k sp) (hr : Room k X.A) (ha : PA X (e :: es) t) (hg : Gl X x := by rfl)
    (hdb : (x == ("__debug__" : Str)) = false := by decide) (he : starEach (e :: es) X.env = (false, eval e X.env) :: starEach es X.env := by rfl) (hpl : (backTo pos (starEach es X.env)).any (·.1) = false := by rfl) :
    PE X (.Call (.Name x p) (e :: es) [] pos) (tCall sp [] E0 t) := by
  obtain ⟨f, fd, F, g, kp, b⟩ := h
  exact pe_call F hr hg g kp b .nil pass0 ha hdb he hpl
/-! ### heaps -/
/-- all that stood stands, but for what is at ms; tuples stand in any case -/
structure Kp (ms : List Addr) (H H' : Hp) : Prop where
  at_ : ∀ a o, H a = some o → a ∉ ms → H' a = some o
  tp : ∀ a xs, H a = some (.tup xs) → H' a = some (.tup xs)
theorem Kp.refl {ms : List Addr} (H : Hp) : Kp ms H H := ⟨fun _ _ h _ => h, fun _ _ h => h⟩
theorem Kp.trans {ms : List Addr} {H H1 H2 : Hp} (a : Kp ms H H1) (b : Kp ms H1 H2) : Kp ms H H2 := ⟨fun c o h n => b.at_ c o (a.at_ c o h n) n, fun c xs h => b.tp c xs (a.tp c xs h)⟩
theorem Kp.mono {ms ms' : List Addr} {H H' : Hp} (a : Kp ms H H') (h : ∀ x ∈ ms, x ∈ ms') : Kp ms' H H' := ⟨fun c o e n => a.at_ c o e fun z => n (h c z), a.tp⟩
theorem Kp.zero {ms : List Addr} {H H' : Hp} (a : Kp [] H H') : Kp ms H H' := a.mono fun _ h => nomatch h
theorem Kp.same {H H' : Hp} (a : Kp [] H H') : Same H H' := fun b o e => a.at_ b o e (fun z => nomatch z)
theorem Kp.new {ms : List Addr} {H : Hp} {p : Addr} {o : HO} (h : H p = none) : Kp ms H (upd H p o) :=
  ⟨fun _ _ e _ => (upd_ne (ne_of_none e h)).trans e, fun _ _ e => (upd_ne (ne_of_none e h)).trans e⟩
theorem Kp.snoc {ms : List Addr} {H H' : Hp} {p : Addr} {o : HO} (a : Kp ms H H') (h : H' p = none) : Kp ms H (upd H' p o) := a.trans (Kp.new h)
theorem Kp.late {ms : List Addr} {H H' : Hp} {p : Addr} {o : HO} (a : Kp ms H H') (h : H p = none) : Kp ms H (L2.upd H' p o) :=
  ⟨fun b u e n => (upd_ne (ne_of_none e h)).trans (a.at_ b u e n), fun b xs e => (upd_ne (ne_of_none e h)).trans (a.tp b xs e)⟩
theorem Kp.set {ms : List Addr} {H : Hp} {p : Addr} {o o' : HO} (e : H p = some o) (hn : ∀ xs, o ≠ .tup xs) (hm : p ∈ ms) : Kp ms H (upd H p o') :=
  ⟨fun b u h n => (upd_ne (fun z => n (by rw [z]; exact hm))).trans h, fun b xs h => (upd_ne (fun z => by rw [z, e] at h; exact hn xs (Option.some.inj h))).trans h⟩
theorem Kp.updL {ms : List Addr} {H : Hp} {p : Addr} {ys : List V} {o' : HO} (e : H p = some (.lst ys)) (hm : p ∈ ms) : Kp ms H (L2.upd H p o') := Kp.set e (fun _ z => by cases z) hm
theorem Kp.free {ms : List Addr} {H H' : Hp} {p : Addr} (a : Kp ms H H') (h : H' p = Option.none) (hm : ∀ x ∈ ms, ∃ o, H' x = some o) : H p = Option.none := by
  cases e : H p with
  | none => rfl
  | some o =>
    by_cases z : p ∈ ms
    · obtain ⟨o', h'⟩ := hm p z
      rw [h'] at h
      cases h
    · rw [a.at_ p o e z] at h
      cases h
theorem upd_upd {H : Hp} {a : Addr} {o o' : HO} : upd (upd H a o) a o' = upd H a o' := by
  funext b
  by_cases z : b = a
  · rw [z, upd_same, upd_same]
  · rw [upd_ne z, upd_ne z, upd_ne z]
theorem upd_comm {H : Hp} {a b : Addr} {o u : HO} (n : a ≠ b) : upd (upd H a o) b u = upd (upd H b u) a o := by
  funext c
  by_cases z : c = a
  · rw [z, upd_ne n, upd_same, upd_same]
  · by_cases y : c = b
    · rw [y, upd_same, upd_ne (Ne.symm n), upd_same]
    · rw [upd_ne y, upd_ne z, upd_ne z, upd_ne y]
/-! ### names of the built-ins -/
structure Bi (mg : Str → Option Value) : Prop where
  len : mg "len" = none
  list : mg "list" = none
  tuple : mg "tuple" = none
  isinstance : mg "isinstance" = none
  int : mg "int" = none
  range : mg "range" = none
  max : mg "max" = none
  all : mg "all" = none
  bool : mg "bool" = none
  dict : mg "dict" = none
  str : mg "str" = none
  enumerate : mg "enumerate" = none
/-! ### the bag of draws -/
structure Bag (H : Hp) (b c : Addr) : Prop where
  bg : ∃ i z m n k : Int, H b = some (.lst [.ref c, .int i, .int z, .int m, .int n, .int k]) ∧ 0 ≤ i ∧ 0 ≤ z
  cl : ∃ cs : List Int, H c = some (.lst (cs.map V.int)) ∧ cs.length ≤ 63
theorem Bag.ne {H : Hp} {b c : Addr} (B : Bag H b c) : c ≠ b := fun z => by
  obtain ⟨⟨i, z', m, n, k, h, _⟩, ⟨cs, h2, _⟩⟩ := B
  rw [z, h] at h2
  cases cs with
  | nil => cases h2
  | cons x r => cases h2
theorem Bag.keep {H H' : Hp} {b c : Addr} {ms : List Addr} (B : Bag H b c) (k : Kp ms H H') (hb : b ∉ ms) (hc : c ∉ ms) : Bag H' b c := by
  obtain ⟨⟨i, z', m, n, k', h, hi⟩, ⟨cs, h2, hl⟩⟩ := B
  exact ⟨⟨i, z', m, n, k', k.at_ _ _ h hb, hi⟩, ⟨cs, k.at_ _ _ h2 hc, hl⟩⟩
theorem Bag.keep0 {H H' : Hp} {b c : Addr} (B : Bag H b c) (k : Kp [] H H') : Bag H' b c := B.keep k (fun z => nomatch z) (fun z => nomatch z)
theorem Bag.someB {H : Hp} {b c : Addr} (B : Bag H b c) : ∃ o, H b = some o := let ⟨_, _, _, _, _, h, _⟩ := B.bg; ⟨_, h⟩
theorem Bag.someC {H : Hp} {b c : Addr} (B : Bag H b c) : ∃ o, H c = some o := let ⟨_, h, _⟩ := B.cl; ⟨_, h⟩
theorem Kp.freeB {H H' : Hp} {b c p : Addr} (a : Kp [b] H H') (B : Bag H' b c) (h : H' p = Option.none) : H p = Option.none :=
  a.free h fun x hx => by
    have e : x = b := by simpa using hx
    rw [e]; exact B.someB
end Fm

namespace Fm
open PySem PySem.Spec PyProof.Rows L2
def topS (i : Nat) : Stmt := PySem.Challenge.pw_firstmet_k02_shapes_refused.main.body.getD i (.Pass ⟨0, 0, 0, 0⟩)
abbrev s__wall : Stmt := topS 0
abbrev N__wall : List Str := ["k"]
theorem sc__wall : FnScope ["k"] ["k"] (defScope s__wall) := ⟨rfl, rfl, rfl, by decide +kernel, rfl, by decide +kernel, by decide +kernel⟩
abbrev s_BadShape_init : Stmt := inClass (topS 3) 0
abbrev N_BadShape_init : List Str := ["self", "at"]
theorem sc_BadShape_init : FnScope ["self", "at"] ["self", "at"] (defScope s_BadShape_init) := ⟨rfl, rfl, rfl, by decide +kernel, rfl, by decide +kernel, by decide +kernel⟩
abbrev s_is_row : Stmt := topS 6
abbrev N_is_row : List Str := ["thing"]
theorem sc_is_row : FnScope ["thing"] ["thing"] (defScope s_is_row) := ⟨rfl, rfl, rfl, by decide +kernel, rfl, by decide +kernel, by decide +kernel⟩
abbrev s_is_name : Stmt := topS 7
abbrev N_is_name : List Str := ["thing", "letter"]
theorem sc_is_name : FnScope ["thing", "letter"] ["thing"] (defScope s_is_name) := ⟨rfl, rfl, rfl, by decide +kernel, rfl, by decide +kernel, by decide +kernel⟩
abbrev s_are_names : Stmt := topS 8
abbrev N_are_names : List Str := ["thing", "least", "most", "at", "name"]
theorem sc_are_names : FnScope ["thing", "least", "most", "at", "name"] ["thing", "least", "most"] (defScope s_are_names) := ⟨rfl, rfl, rfl, by decide +kernel, rfl, by decide +kernel, by decide +kernel⟩
abbrev s_is_table : Stmt := topS 9
abbrev N_is_table : List Str := ["thing"]
theorem sc_is_table : FnScope ["thing"] ["thing"] (defScope s_is_table) := ⟨rfl, rfl, rfl, by decide +kernel, rfl, by decide +kernel, by decide +kernel⟩
abbrev s_Shape_init : Stmt := inClass (topS 10) 0
abbrev N_Shape_init : List Str := ["self", "tables", "names", "made", "at", "table"]
theorem sc_Shape_init : FnScope ["self", "tables", "names", "made", "at", "table"] ["self", "tables"] (defScope s_Shape_init) := ⟨rfl, rfl, rfl, by decide +kernel, rfl, by decide +kernel, by decide +kernel⟩
abbrev s_Shape_eq : Stmt := inClass (topS 10) 1
abbrev N_Shape_eq : List Str := ["self", "other"]
theorem sc_Shape_eq : FnScope ["self", "other"] ["self", "other"] (defScope s_Shape_eq) := ⟨rfl, rfl, rfl, by decide +kernel, rfl, by decide +kernel, by decide +kernel⟩
abbrev s_Shape_fields_of : Stmt := inClass (topS 10) 2
abbrev N_Shape_fields_of : List Str := ["self", "name"]
theorem sc_Shape_fields_of : FnScope ["self", "name"] ["self", "name"] (defScope s_Shape_fields_of) := ⟨rfl, rfl, rfl, by decide +kernel, rfl, by decide +kernel, by decide +kernel⟩
abbrev s__law_bag : Stmt := topS 12
abbrev N__law_bag : List Str := ["_law_script"]
theorem sc__law_bag : FnScope ["_law_script"] ["_law_script"] (defScope s__law_bag) := ⟨rfl, rfl, rfl, by decide +kernel, rfl, by decide +kernel, by decide +kernel⟩
abbrev s__law_pick : Stmt := topS 13
abbrev N__law_pick : List Str := ["_law_bag_here", "_law_many", "_law_cell", "_law_found", "_law_one"]
theorem sc__law_pick : FnScope ["_law_bag_here", "_law_many", "_law_cell", "_law_found", "_law_one"] ["_law_bag_here", "_law_many"] (defScope s__law_pick) := ⟨rfl, rfl, rfl, by decide +kernel, rfl, by decide +kernel, by decide +kernel⟩
abbrev s__law_name : Stmt := topS 14
abbrev N__law_name : List Str := ["_law_bag_here", "_law_taken", "_law_letters", "_law_word_here", "_law_stem", "_law_k"]
theorem sc__law_name : FnScope ["_law_bag_here", "_law_taken", "_law_letters", "_law_word_here", "_law_stem", "_law_k"] ["_law_bag_here", "_law_taken"] (defScope s__law_name) := ⟨rfl, rfl, rfl, by decide +kernel, rfl, by decide +kernel, by decide +kernel⟩
abbrev s__law_tables : Stmt := topS 15
abbrev N__law_tables : List Str := ["_law_bag_here", "_law_taken", "_law_tables_here", "_law_k", "_law_name_here", "_law_fields", "_law_j"]
theorem sc__law_tables : FnScope ["_law_bag_here", "_law_taken", "_law_tables_here", "_law_k", "_law_name_here", "_law_fields", "_law_j"] ["_law_bag_here"] (defScope s__law_tables) := ⟨rfl, rfl, rfl, by decide +kernel, rfl, by decide +kernel, by decide +kernel⟩
abbrev s__law_integer : Stmt := topS 16
abbrev N__law_integer : List Str := ["_law_thing"]
theorem sc__law_integer : FnScope ["_law_thing"] ["_law_thing"] (defScope s__law_integer) := ⟨rfl, rfl, rfl, by decide +kernel, rfl, by decide +kernel, by decide +kernel⟩
abbrev s__law_row : Stmt := topS 17
abbrev N__law_row : List Str := ["_law_thing"]
theorem sc__law_row : FnScope ["_law_thing"] ["_law_thing"] (defScope s__law_row) := ⟨rfl, rfl, rfl, by decide +kernel, rfl, by decide +kernel, by decide +kernel⟩
abbrev s__law_word : Stmt := topS 18
abbrev N__law_word : List Str := ["_law_thing", "_law_letter"]
theorem sc__law_word : FnScope ["_law_thing", "_law_letter"] ["_law_thing"] (defScope s__law_word) := ⟨rfl, rfl, rfl, by decide +kernel, rfl, by decide +kernel, by decide +kernel⟩
abbrev s__law_words : Stmt := topS 19
abbrev N__law_words : List Str := ["_law_thing", "_law_least", "_law_most", "_law_k"]
theorem sc__law_words : FnScope ["_law_thing", "_law_least", "_law_most", "_law_k"] ["_law_thing", "_law_least", "_law_most"] (defScope s__law_words) := ⟨rfl, rfl, rfl, by decide +kernel, rfl, by decide +kernel, by decide +kernel⟩
abbrev s__law_shape_due : Stmt := topS 20
abbrev N__law_shape_due : List Str := ["_law_things", "_law_k", "_law_one", "_law_other"]
theorem sc__law_shape_due : FnScope ["_law_things", "_law_k", "_law_one", "_law_other"] ["_law_things"] (defScope s__law_shape_due) := ⟨rfl, rfl, rfl, by decide +kernel, rfl, by decide +kernel, by decide +kernel⟩
abbrev s__law_copied : Stmt := topS 21
abbrev N__law_copied : List Str := ["_law_thing", "_law_found", "_law_key", "_law_part"]
theorem sc__law_copied : FnScope ["_law_thing", "_law_found", "_law_key", "_law_part"] ["_law_thing"] (defScope s__law_copied) := ⟨rfl, rfl, rfl, by decide +kernel, rfl, by decide +kernel, by decide +kernel⟩
abbrev s__law_alike : Stmt := topS 22
abbrev N__law_alike : List Str := ["_law_one", "_law_other", "_law_k", "_law_key"]
theorem sc__law_alike : FnScope ["_law_one", "_law_other", "_law_k", "_law_key"] ["_law_one", "_law_other"] (defScope s__law_alike) := ⟨rfl, rfl, rfl, by decide +kernel, rfl, by decide +kernel, by decide +kernel⟩
abbrev s__law_places : Stmt := topS 23
abbrev N__law_places : List Str := ["_law_thing", "_law_path", "_law_found", "_law_k"]
theorem sc__law_places : FnScope ["_law_thing", "_law_path", "_law_found", "_law_k"] ["_law_thing", "_law_path"] (defScope s__law_places) := ⟨rfl, rfl, rfl, by decide +kernel, rfl, by decide +kernel, by decide +kernel⟩
abbrev s__law_at : Stmt := topS 24
abbrev N__law_at : List Str := ["_law_thing", "_law_path", "_law_k"]
theorem sc__law_at : FnScope ["_law_thing", "_law_path", "_law_k"] ["_law_thing", "_law_path"] (defScope s__law_at) := ⟨rfl, rfl, rfl, by decide +kernel, rfl, by decide +kernel, by decide +kernel⟩
abbrev s__law_with : Stmt := topS 25
abbrev N__law_with : List Str := ["_law_thing", "_law_path", "_law_part", "_law_row_here"]
theorem sc__law_with : FnScope ["_law_thing", "_law_path", "_law_part", "_law_row_here"] ["_law_thing", "_law_path", "_law_part"] (defScope s__law_with) := ⟨rfl, rfl, rfl, by decide +kernel, rfl, by decide +kernel, by decide +kernel⟩
abbrev s__law_deep : Stmt := topS 26
abbrev N__law_deep : List Str := ["_law_thing", "_law_part"]
theorem sc__law_deep : FnScope ["_law_thing", "_law_part"] ["_law_thing"] (defScope s__law_deep) := ⟨rfl, rfl, rfl, by decide +kernel, rfl, by decide +kernel, by decide +kernel⟩
abbrev s__law_odd : Stmt := topS 27
abbrev N__law_odd : List Str := ["_law_bag_here", "_law_number", "_law_odd_here"]
theorem sc__law_odd : FnScope ["_law_bag_here", "_law_number", "_law_odd_here"] ["_law_bag_here"] (defScope s__law_odd) := ⟨rfl, rfl, rfl, by decide +kernel, rfl, by decide +kernel, by decide +kernel⟩
abbrev s__law_other_number : Stmt := topS 28
abbrev N__law_other_number : List Str := ["_law_bag_here", "_law_number", "_law_numbers"]
theorem sc__law_other_number : FnScope ["_law_bag_here", "_law_number", "_law_numbers"] ["_law_bag_here", "_law_number"] (defScope s__law_other_number) := ⟨rfl, rfl, rfl, by decide +kernel, rfl, by decide +kernel, by decide +kernel⟩
abbrev s__law_other_string : Stmt := topS 29
abbrev N__law_other_string : List Str := ["_law_bag_here", "_law_word_here", "_law_letters", "_law_letter", "_law_at_here"]
theorem sc__law_other_string : FnScope ["_law_bag_here", "_law_word_here", "_law_letters", "_law_letter", "_law_at_here"] ["_law_bag_here", "_law_word_here"] (defScope s__law_other_string) := ⟨rfl, rfl, rfl, by decide +kernel, rfl, by decide +kernel, by decide +kernel⟩
abbrev s__law_other_row : Stmt := topS 30
abbrev N__law_other_row : List Str := ["_law_bag_here", "_law_row_here", "_law_at_here", "_law_to", "_law_many", "_law_choice"]
theorem sc__law_other_row : FnScope ["_law_bag_here", "_law_row_here", "_law_at_here", "_law_to", "_law_many", "_law_choice"] ["_law_bag_here", "_law_row_here"] (defScope s__law_other_row) := ⟨rfl, rfl, rfl, by decide +kernel, rfl, by decide +kernel, by decide +kernel⟩
abbrev s__law_spoiled : Stmt := topS 31
abbrev N__law_spoiled : List Str := ["_law_bag_here", "_law_thing", "_law_names", "_law_places_here", "_law_path", "_law_other", "_law_part", "_law_choice", "_law_odd_here"]
theorem sc__law_spoiled : FnScope ["_law_bag_here", "_law_thing", "_law_names", "_law_places_here", "_law_path", "_law_other", "_law_part", "_law_choice", "_law_odd_here"] ["_law_bag_here", "_law_thing", "_law_names"] (defScope s__law_spoiled) := ⟨rfl, rfl, rfl, by decide +kernel, rfl, by decide +kernel, by decide +kernel⟩
abbrev s__law_made : Stmt := topS 32
abbrev N__law_made : List Str := ["_law_things", "_law_found", "_law_shape", "e"]
theorem sc__law_made : FnScope ["_law_things", "_law_found", "_law_shape", "e"] ["_law_things"] (defScope s__law_made) := ⟨rfl, rfl, rfl, by decide +kernel, rfl, by decide +kernel, by decide +kernel⟩
abbrev s__law_tables_due : Stmt := topS 33
abbrev N__law_tables_due : List Str := ["_law_things", "_law_table"]
theorem sc__law_tables_due : FnScope ["_law_things", "_law_table"] ["_law_things"] (defScope s__law_tables_due) := ⟨rfl, rfl, rfl, by decide +kernel, rfl, by decide +kernel, by decide +kernel⟩
abbrev s_law : Stmt := topS 34
abbrev N_law : List Str := ["_law_script", "_law_bag_here", "_law_things", "_law_names", "_law_name_here", "_law_fields", "_law_k", "_law_kept", "_law_due", "_law_found"]
theorem sc_law : FnScope ["_law_script", "_law_bag_here", "_law_things", "_law_names", "_law_name_here", "_law_fields", "_law_k", "_law_kept", "_law_due", "_law_found"] ["_law_script"] (defScope s_law) := ⟨rfl, rfl, rfl, by decide +kernel, rfl, by decide +kernel, by decide +kernel⟩
end Fm

namespace Fm
open PySem PySem.Spec PyProof.Rows L2
/-! ### bag and pick -/
def spBag (K : PySem.W.Frag) : Sp := fun vs H Q _ => ∃ (a : Addr) (ns : List Int), vs = [.ref a] ∧ SqL K H a (ns.map V.int) ∧
  ∀ b c H', Kp [] H H' → H b = none → H c = none → Bag H' b c → Q (.ref b) H'
def spPick : Sp := fun vs H Q _ => ∃ (b c : Addr) (many : Int), vs = [.ref b, .int many] ∧ Bag H b c ∧ 0 < many ∧ many < 1073741824 ∧
  ∀ (r : Int) (H' : Hp), 0 ≤ r → r < many → Bag H' b c → Kp [b] H H' → Q (.int r) H'
section
variable {P : Program} {w : World} {K : PySem.W.Frag} {mg : Str → Option Value} {base : Heap}
theorem ok_bag (B : Bi mg) (D : Dfn K mg "_law_bag" s__law_bag ["_law_script"]) : Has P w K mg base CX0 "_law_bag" ["_law_script"] 1 (spBag K) := by
  refine D.has sc__law_bag (fun vs H Q E h => ?_) (fun f cdv A outer s H vs Q E hr h => ?_)
  · obtain ⟨a, ns, rfl, _⟩ := h; rfl
  · obtain ⟨a, ns, rfl, hS, k⟩ := h
    refine ⟨_, pss_one (ps_ret (pe_lst (pa_cons (pe_callTy call_list_of (by rfl) B.list (by decide +kernel) (pa_cons (pe_slice sl_list (pv 0) po_none (po_some pe_int)) pa_nil)) (pa_cons pe_int (pa_cons pe_int (pa_cons pe_int (pa_cons pe_int (pa_cons pe_int pa_nil)))))))), ?_⟩
    refine ⟨_, rfl, 63, rfl, a, _, rfl, hS, fun p np => ?_⟩
    refine ⟨p, _, rfl, .inl (SqL.of upd_same), fun c nc => ?_⟩
    refine ⟨by show 6 ≤ sizeLine; decide, fun b nb => ?_⟩
    obtain ⟨cs, e, hl⟩ : ∃ cs : List Int, cutV (ns.map V.int) none (some 63) = cs.map V.int ∧ cs.length ≤ 63 := by
      refine ⟨ns.take (min 63 ns.length), ?_, ?_⟩
      · have e1 : HT.sIx (ns.map V.int).length (ns.map V.int).length (some 63) = min 63 (ns.map V.int).length := HT.sIx_nat _ _ 63
        unfold cutV
        rw [e1, HT.sIx_none, List.drop_zero, Nat.sub_zero, List.length_map, List.map_take]
      · rw [List.length_take]; omega
    have n1 : H c = none := by
      have := nc
      by_cases z : c = p
      · rw [z]; exact np
      · rw [upd_ne z] at nc; exact nc
    have cb : c ≠ b := fun z => by rw [← z, upd_same] at nb; cases nb
    refine k b c _ (((Kp.new np).snoc nc).snoc nb) ?_ n1 ⟨⟨0, 0, 0, 0, 0, upd_same, by decide, by decide⟩, ⟨cs, ?_, hl⟩⟩
    · by_cases z : b = c
      · rw [z]; exact n1
      · rw [upd_ne z] at nb
        by_cases y : b = p
        · rw [y]; exact np
        · rw [upd_ne y] at nb; exact nb
    · rw [upd_ne cb, upd_same, e]
theorem emod_lt' {a n : Int} (h : 0 < n) : a % n < n := Int.emod_lt_of_pos a h
theorem ok_pick (B : Bi mg) (D : Dfn K mg "_law_pick" s__law_pick ["_law_bag_here", "_law_many"]) : Has P w K mg base CX0 "_law_pick" ["_law_bag_here", "_law_many"] 1 spPick := by
  refine D.has sc__law_pick (fun vs H Q E h => ?_) (fun f cdv A outer s H vs Q E hr h => ?_)
  · obtain ⟨b, c, m, rfl, _⟩ := h; rfl
  · obtain ⟨b, c, many, rfl, BG, m0, m1, k⟩ := h
    obtain ⟨⟨i, z, m, n, q, hb, hi, hz⟩, ⟨cs, hc, hl⟩⟩ := id BG
    have ncb := BG.ne
    have hu := hu_of hr
    refine ⟨_, (pss_cons (ps_asg (pe_op op_add (pe_ix ix_list (pv 0) pe_int (fun _ _ => rfl)) pe_int) (pg_sub (pv 0) pe_int set_list))
  (C8.pss_cut (ps_if (PW.pt (pw_and (pt_cmpR op_eq (pe_ix ix_list (pv 0) pe_int (fun _ _ => rfl)) pe_int (nomark _)) (pw_and (pt_cmpR op_eq (pe_ix ix_list (pv 0) pe_int (fun _ _ => rfl)) pe_int (nomark _)) (pw_and1 (pt_cmpR op_lt (pe_ix ix_list (pv 0) pe_int (fun _ _ => rfl)) (pe_callB call_len (by rfl) B.len PySem.boot_len (pa_cons (pe_ix ix_list (pv 0) pe_int (fun _ _ => rfl)) pa_nil)) (nomark _))))))
  (pss_cons (ps_set (i := 2) sc__law_pick.nd rfl (by first | exact Or.inl rfl | exact Or.inr rfl) (pe_ix ix_list (pe_ix ix_list (pv 0) pe_int (fun _ _ => rfl)) (pe_ix ix_list (pv 0) pe_int (fun _ _ => rfl)) (fun _ _ => rfl)))
  (pss_cons (ps_asg (pe_op op_add (pe_ix ix_list (pv 0) pe_int (fun _ _ => rfl)) pe_int) (pg_sub (pv 0) pe_int set_list))
  (pss_one (ps_if (pt_cmpR op_ge (pv 2) (pe_op op_pow pe_int pe_int) (nomark _))
  (pss_one (ps_asg (pv 2) (pg_sub (pv 0) pe_int set_list)))
  (pss_cons (ps_asg (pe_op op_mod (pe_callTy call_int1 (by rfl) B.int (by decide +kernel) (pa_cons (pe_op op_add (pe_op op_add (pe_op op_mul (pe_ix ix_list (pv 0) pe_int (fun _ _ => rfl)) pe_int) (pv 2)) pe_int) pa_nil)) pe_int) (pg_sub (pv 0) pe_int set_list))
  (pss_one (ps_asg pe_int (pg_sub (pv 0) pe_int set_list))))))))
  pss_nil)
  (C8.pss_cut (ps_if (pt_cmpR op_gt (pe_ix ix_list (pv 0) pe_int (fun _ _ => rfl)) pe_int (nomark _))
  (pss_cons (ps_set (i := 3) sc__law_pick.nd rfl (by first | exact Or.inl rfl | exact Or.inr rfl) (pe_op op_mod (pe_callTy call_int1 (by rfl) B.int (by decide +kernel) (pa_cons (pe_ix ix_list (pv 0) pe_int (fun _ _ => rfl)) pa_nil)) (pv 1)))
  (pss_cons (ps_asg (pe_op op_fdiv (pe_ix ix_list (pv 0) pe_int (fun _ _ => rfl)) (pv 1)) (pg_sub (pv 0) pe_int set_list))
  (pss_one (ps_ret (pv 3)))))
  pss_nil)
  (pss_cons (ps_asg (pe_callB (call_max2 rfl) (by rfl) B.max (by decide +kernel) (pa_cons pe_int (pa_cons (pe_op op_sub (pe_ix ix_list (pv 0) pe_int (fun _ _ => rfl)) pe_int) pa_nil))) (pg_sub (pv 0) pe_int set_list))
  (pss_cons (ps_set (i := 4) sc__law_pick.nd rfl (by first | exact Or.inl rfl | exact Or.inr rfl) (pe_op op_mod (pe_callTy call_int1 (by rfl) B.int (by decide +kernel) (pa_cons (pe_op op_mul (pe_op op_add (pe_op op_add (pe_ix ix_list (pv 0) pe_int (fun _ _ => rfl)) (pe_op op_mul pe_int (pe_ix ix_list (pv 0) pe_int (fun _ _ => rfl)))) pe_int) pe_int) pa_nil)) pe_int))
  (pss_cons (ps_set (i := 4) sc__law_pick.nd rfl (by first | exact Or.inl rfl | exact Or.inr rfl) (pe_op op_mod (pe_callTy call_int1 (by rfl) B.int (by decide +kernel) (pa_cons (pe_op op_mul (pv 4) (pe_op op_add (pe_op op_fdiv (pv 4) pe_int) pe_int)) pa_nil)) pe_int))
  (pss_cons (ps_set (i := 4) sc__law_pick.nd rfl (by first | exact Or.inl rfl | exact Or.inr rfl) (pe_op op_mod (pe_callTy call_int1 (by rfl) B.int (by decide +kernel) (pa_cons (pe_op op_mul (pv 4) (pe_op op_add (pe_op op_fdiv (pv 4) pe_int) pe_int)) pa_nil)) pe_int))
  (pss_one (ps_ret (pe_op op_mod (pe_callTy call_int1 (by rfl) B.int (by decide +kernel) (pa_cons (pe_op op_fdiv (pv 4) pe_int) pa_nil)) (pv 1))))))))))), ?_⟩
    -- bag[4] = bag[4] + 1
    refine ⟨_, rfl, b, _, _, _, rfl, rfl, SqL.of hb, rfl, _, _, rfl, rfl, _, rfl, b, _, _, _, rfl, rfl, hb, rfl, ?_⟩
    -- the join behind the first if
    refine ⟨fun σ H' => ∃ (i z m n q : Int) (v : Option V), σ = [some (.ref b), some (.int many), v, none, none] ∧ 0 ≤ i ∧ 0 ≤ z ∧ H' = upd H b (.lst [.ref c, .int i, .int z, .int m, .int n, .int q]), ?_, ?_⟩
    · have h1 : ∀ L, (upd H b L) b = some L := fun L => upd_same
      have hcc : ∀ L, (upd H b L) c = some (.lst (cs.map V.int)) := fun L => by rw [upd_ne ncb]; exact hc
      have fin : ∀ (n : Int), ∃ (i' z' m' n' q' : Int) (v : Option V), ([some (.ref b), some (.int many), none, none, none] : L2.St) = [some (.ref b), some (.int many), v, none, none] ∧ 0 ≤ i' ∧ 0 ≤ z' ∧ upd H b (.lst [.ref c, .int i, .int z, .int m, .int n, .int q]) = upd H b (.lst [.ref c, .int i', .int z', .int m', .int n', .int q']) := fun n => ⟨i, z, m, n, q, none, rfl, hi, hz, rfl⟩
      refine ⟨_, rfl, b, _, _, _, rfl, rfl, SqL.of upd_same, rfl, rfl, _, rfl, ?_⟩
      refine ite2 (fun hz0 => ?_) (fun _ => fin _)
      refine ⟨_, rfl, b, _, _, _, rfl, rfl, SqL.of upd_same, rfl, rfl, _, rfl, ?_⟩
      refine ite2 (fun hq0 => ?_) (fun _ => fin _)
      refine ⟨_, rfl, b, _, _, _, rfl, rfl, SqL.of upd_same, rfl, _, rfl, b, _, _, _, rfl, rfl, SqL.of upd_same, rfl, _, _, rfl, .inl ⟨_, SqL.of (hcc _), rfl⟩, _, _, rfl, rfl, _, rfl, ?_⟩
      refine ite2 (fun hlt => ?_) (fun _ => fin _)
      rw [List.length_map] at hlt
      have hlt' : i < (cs.length : Int) := of_decide_eq_true hlt
      obtain ⟨y, hy⟩ : ∃ y, cs[i.toNat]? = some y := ⟨cs[i.toNat]'(by omega), List.getElem?_eq_getElem (by omega)⟩
      have hat : atI (cs.map V.int) i = some (V.int y) := by
        unfold atI ixN
        rw [List.length_map, if_pos hi, if_pos hlt']
        simp [hy]
      -- cell = bag[0][bag[1]]; bag[1] = bag[1] + 1
      refine ⟨_, rfl, b, _, _, _, rfl, rfl, SqL.of upd_same, rfl, _, rfl, b, _, _, _, rfl, rfl, SqL.of upd_same, rfl, c, _, _, _, rfl, rfl, SqL.of (hcc _), hat, ?_⟩
      refine ⟨_, rfl, b, _, _, _, rfl, rfl, SqL.of upd_same, rfl, _, _, rfl, rfl, _, rfl, b, _, _, _, rfl, rfl, upd_same, rfl, ?_⟩
      refine ⟨_, rfl, _, _, rfl, rfl, ⟨by decide, by decide, by decide⟩, _, _, rfl, rfl, _, rfl, ?_⟩
      refine ite2 (fun hbig => ?_) (fun _ => ?_)
      · refine ⟨_, rfl, _, rfl, b, _, _, _, rfl, rfl, upd_same, rfl, ?_⟩
        have hy0 : 0 ≤ y := by
          have := of_decide_eq_true hbig
          have e : (10 : Int) ^ (18 : Int).toNat = 1000000000000000000 := by decide
          rw [e] at this
          omega
        refine ⟨i + 1, y, m, n + 1, q, _, rfl, by omega, hy0, ?_⟩
        rw [upd_upd, upd_upd]
        rfl
      · refine ⟨_, rfl, b, _, _, _, rfl, rfl, SqL.of upd_same, rfl, _, _, rfl, rfl, .inr ⟨by decide, by decide⟩, _, rfl, _, _, rfl, rfl, _, _, rfl, rfl, .inl ⟨_, rfl, _, _, rfl, rfl, (by show (0 : Int) < 2147483647; decide), _, rfl, b, _, _, _, rfl, rfl, upd_same, rfl, ?_⟩⟩
        refine ⟨_, rfl, b, _, _, _, rfl, rfl, upd_same, rfl, ?_⟩
        refine ⟨i + 1, z, (m * 69621 + y + 12345) % 2147483647, n + 1, 6, _, rfl, by omega, hz, ?_⟩
        rw [upd_upd, upd_upd, upd_upd]
        rfl
    · clear hb hz hi hl
      rintro σ' H' ⟨i, z, m, n, q, v, rfl, hi, hz, rfl⟩
      have h1 : ∀ L, (upd H b L) b = some L := fun L => upd_same
      have kp : ∀ L, Kp [b] H (upd H b L) := fun L => by
        obtain ⟨_, _, _, _, _, hb, _⟩ := BG.bg
        exact Kp.updL hb (by simp)
      have bag : ∀ i z m n q : Int, 0 ≤ i → 0 ≤ z → Bag (upd H b (.lst [.ref c, .int i, .int z, .int m, .int n, .int q])) b c := fun i z m n q hi hz => by
        obtain ⟨cs, hc, hl⟩ := BG.cl
        exact ⟨⟨i, z, m, n, q, upd_same, hi, hz⟩, ⟨cs, by rw [upd_ne ncb]; exact hc, hl⟩⟩
      refine ⟨fun σ H' => σ = [some (.ref b), some (.int many), v, none, none] ∧ H' = upd H b (.lst [.ref c, .int i, .int z, .int m, .int n, .int q]), ?_, ?_⟩
      · refine ⟨_, rfl, b, _, _, _, rfl, rfl, SqL.of upd_same, rfl, _, _, rfl, rfl, _, rfl, ?_⟩
        refine ite2 (fun _ => ?_) (fun _ => ⟨rfl, rfl⟩)
        refine ⟨_, rfl, b, _, _, _, rfl, rfl, SqL.of upd_same, rfl, .inl ⟨_, rfl, _, rfl, _, _, rfl, rfl, m0, ?_⟩⟩
        refine ⟨_, rfl, b, _, _, _, rfl, rfl, SqL.of upd_same, rfl, _, rfl, _, _, rfl, rfl, ⟨m0, m1⟩, _, rfl, b, _, _, _, rfl, rfl, upd_same, rfl, ?_⟩
        refine ⟨_, rfl, ?_⟩
        rw [upd_upd]
        exact k _ _ (Int.emod_nonneg _ (by omega)) (Int.emod_lt_of_pos _ m0) (bag _ _ _ _ _ hi (Int.ediv_nonneg hz (by omega))) (kp _)
      · rintro σ' H' ⟨rfl, rfl⟩
        refine ⟨_, rfl, b, _, _, _, rfl, rfl, SqL.of upd_same, rfl, _, _, rfl, rfl, _, _, rfl, _, rfl, b, _, _, _, rfl, rfl, upd_same, rfl, ?_⟩
        rw [upd_upd]
        refine ⟨_, rfl, b, _, _, _, rfl, rfl, SqL.of upd_same, rfl, _, rfl, b, _, _, _, rfl, rfl, SqL.of upd_same, rfl, _, _, rfl, rfl, .inl ⟨by decide, by decide⟩, _, _, rfl, rfl, _, _, rfl, rfl, _, _, rfl, rfl, .inr ⟨by decide, by decide⟩, .inl ⟨_, rfl, _, _, rfl, rfl, (by show (0 : Int) < 2147483647; decide), ?_⟩⟩
        generalize hx : ((m + 7919 * n + 1) * 48271) % 2147483647 = x
        have x0 : 0 ≤ x := hx ▸ Int.emod_nonneg _ (by decide)
        have x1 : x < 2147483647 := hx ▸ Int.emod_lt_of_pos _ (by decide)
        refine ⟨_, rfl, _, rfl, _, _, rfl, rfl, ⟨by decide, by decide⟩, _, _, rfl, rfl, _, _, rfl, rfl, .inl ⟨by omega, by omega⟩, .inl ⟨_, rfl, _, _, rfl, rfl, (by show (0 : Int) < 2147483647; decide), ?_⟩⟩
        generalize hy : (x * (x / 1009 + 69621)) % 2147483647 = y
        have y0 : 0 ≤ y := hy ▸ Int.emod_nonneg _ (by decide)
        have y1 : y < 2147483647 := hy ▸ Int.emod_lt_of_pos _ (by decide)
        refine ⟨_, rfl, _, rfl, _, _, rfl, rfl, ⟨by decide, by decide⟩, _, _, rfl, rfl, _, _, rfl, rfl, .inl ⟨by omega, by omega⟩, .inl ⟨_, rfl, _, _, rfl, rfl, (by show (0 : Int) < 2147483399; decide), ?_⟩⟩
        refine ⟨_, rfl, _, _, rfl, rfl, ⟨by decide, by decide⟩, .inl ⟨_, rfl, _, rfl, _, _, rfl, rfl, m0, ?_⟩⟩
        exact k _ _ (Int.emod_nonneg _ (by omega)) (Int.emod_lt_of_pos _ m0) (bag _ _ _ _ _ hi hz) (kp _)
end
end Fm

namespace Fm
open PySem PySem.Spec PyProof.Rows L2
/-! ### names -/
/-- a text of 1 to 8 letters a to z -/
def IsNm (w : Str) : Prop := 1 ≤ w.length ∧ w.length ≤ 8 ∧ ∀ c ∈ w.cps.toList, 97 ≤ c ∧ c ≤ 122
def abc : Str := "abcdefghijklmnopqrstuvwxyz"
theorem abc_at : ∀ n : Nat, n < 26 → abc.cps.toList[n]? = some (97 + n) := by decide +kernel
theorem abc_size : abc.cps.toList.length = 26 := by decide +kernel
theorem abc_len : abc.length = 26 := by decide +kernel
theorem abc_ix {r : Int} (h0 : 0 ≤ r) (h1 : r < 26) : atI abc.cps.toList r = some (97 + r.toNat) := by
  unfold atI ixN
  rw [abc_size, if_pos h0, if_pos (by omega)]
  exact abc_at r.toNat (by omega)
theorem one_nm {c : Nat} (h : 97 ≤ c ∧ c ≤ 122) : ∀ d ∈ (⟨#[c]⟩ : Str).cps.toList, 97 ≤ d ∧ d ≤ 122 := by
  intro d hd
  have e : d = c := by simpa using hd
  rw [e]; exact h
theorem join_ones : ∀ cs : List Nat, Str.join ⟨#[]⟩ (cs.map fun c => (⟨#[c]⟩ : Str)) = ⟨cs.toArray⟩
  | [] => rfl
  | [c] => rfl
  | c :: d :: r => by
    have ih := join_ones (d :: r)
    show (⟨#[c]⟩ : Str) ++ ⟨#[]⟩ ++ Str.join ⟨#[]⟩ ((d :: r).map fun c => (⟨#[c]⟩ : Str)) = _
    rw [ih]
    refine ext_toList ?_
    show ((#[c] ++ #[]) ++ (d :: r).toArray).toList = _
    simp
theorem txt_join_ones (cs : List Nat) : PySem.Txt.join (Str.ofString "") (cs.map fun c => (⟨#[c]⟩ : Str)) = ⟨cs.toArray⟩ := by
  rw [show (Str.ofString "" : Str) = ⟨#[]⟩ by decide +kernel]
  rw [TL.join_eq]
  exact join_ones cs
theorem sum_ones : ∀ cs : List Nat, ((cs.map fun c => (⟨#[c]⟩ : Str)).map (·.length)).sum = cs.length
  | [] => rfl
  | c :: r => by
    have ih := sum_ones r
    show 1 + ((r.map fun c => (⟨#[c]⟩ : Str)).map (·.length)).sum = r.length + 1
    rw [ih]; omega
theorem inV_strs (w : Str) (ws : List Str) : inV (.str w) (ws.map V.str) = decide (w ∈ ws) := by
  unfold inV
  induction ws with
  | nil => rfl
  | cons a r ih =>
    rw [List.map_cons, List.any_cons, ih]
    show ((a == w) || decide (w ∈ r)) = _
    by_cases h : a = w
    · subst h; simp
    · have : ¬ w = a := fun z => h z.symm
      simp [h, this]
theorem flat_strs (ws : List Str) : (ws.map V.str).all flatV = true := by
  rw [List.all_eq_true]
  intro x hx
  obtain ⟨w, _, rfl⟩ := List.mem_map.mp hx
  rfl
theorem pigeon {α : Type} [DecidableEq α] : ∀ (l ws : List α), l.Nodup → (∀ x ∈ l, x ∈ ws) → l.length ≤ ws.length
  | [], _, _, _ => Nat.zero_le _
  | a :: l, ws, nd, h => by
    have ha : a ∈ ws := h a List.mem_cons_self
    have hn : a ∉ l := (List.nodup_cons.mp nd).1
    have ih := pigeon l (ws.erase a) (List.nodup_cons.mp nd).2 fun x hx => by
      have hxa : x ≠ a := fun z => hn (z ▸ hx)
      exact (List.mem_erase_of_ne hxa).mpr (h x (List.mem_cons_of_mem _ hx))
    have := List.length_erase_of_mem ha
    have hp : 0 < ws.length := List.length_pos_of_mem ha
    simp only [List.length_cons]
    omega
/-- the stem and one letter -/
def stemL (s : Str) (n : Nat) : Str := s ++ ⟨#[97 + n]⟩
theorem stemL_inj {s : Str} {m n : Nat} (h : stemL s m = stemL s n) : m = n := by
  have e : (stemL s m).cps.toList = (stemL s n).cps.toList := by rw [h]
  unfold stemL at e
  change (s.cps ++ #[97 + m]).toList = (s.cps ++ #[97 + n]).toList at e
  simp at e
  omega
theorem stems_nodup (s : Str) (n : Nat) : ((List.range n).map (stemL s)).Nodup := by
  rw [List.nodup_iff_pairwise_ne, List.pairwise_map]
  exact (List.nodup_range (n := n)).imp fun h z => h (stemL_inj z)
theorem stem_nm {s : Str} {n : Nat} (h7 : s.length ≤ 7) (hs : ∀ c ∈ s.cps.toList, 97 ≤ c ∧ c ≤ 122) (hn : n < 26) : IsNm (stemL s n) := by
  have hl : (stemL s n).length = s.length + 1 := by
    unfold stemL
    change (s.cps ++ #[97 + n]).size = s.cps.size + 1
    simp
  refine ⟨by omega, by omega, fun c hc => ?_⟩
  unfold stemL at hc
  change c ∈ (s.cps ++ #[97 + n]).toList at hc
  simp at hc
  rcases hc with hc | hc
  · exact hs c (by simpa using hc)
  · omega
theorem cut7 (w : Str) : (cutS w none (some 7)).length ≤ 7 ∧ ∀ c ∈ (cutS w none (some 7)).cps.toList, c ∈ w.cps.toList := by
  have e1 : HT.sIx w.length w.length (some 7) = min 7 w.length := HT.sIx_nat _ _ 7
  unfold cutS
  rw [e1, HT.sIx_none, List.drop_zero, Nat.sub_zero]
  refine ⟨?_, fun c hc => ?_⟩
  · change (List.take (min 7 w.length) w.cps.toList).toArray.size ≤ 7
    simp
    omega
  · exact List.mem_of_mem_take (by simpa using hc)
/-- the ways through the loop: while the words were taken, up to k letters -/
theorem all_taken {s : Str} {ws : List Str} (hw : ws.length ≤ 25) (h : ∀ j, j < 26 → stemL s j ∈ ws) : False := by
  have := pigeon ((List.range 26).map (stemL s)) ws (stems_nodup s 26) fun x hx => by
    obtain ⟨j, hj, rfl⟩ := List.mem_map.mp hx
    exact h j (List.mem_range.mp hj)
  rw [List.length_map, List.length_range] at this
  omega
theorem atI_of {α : Type} {xs : List α} {r : Int} {x : α} (h0 : 0 ≤ r) (h : xs[r.toNat]? = some x) : atI xs r = some x := by
  have hl : r.toNat < xs.length := (List.getElem?_eq_some_iff.mp h).1
  unfold atI ixN
  rw [if_pos h0, if_pos (by omega)]
  exact h
end Fm

namespace Fm
open PySem PySem.Spec PyProof.Rows L2
def spName : Sp := fun vs H Q _ => ∃ (b c t : Addr) (ws : List Str), vs = [.ref b, .ref t] ∧ Bag H b c ∧ H t = some (.lst (ws.map V.str)) ∧ t ≠ b ∧ t ≠ c ∧ ws.length ≤ 25 ∧
  ∀ (w : Str) (H' : Hp), IsNm w → w ∉ ws → Bag H' b c → H' t = some (.lst ((ws ++ [w]).map V.str)) → Kp [b, t] H H' → Q (.str w) H'
def menu8 : List Str := ["end", "put", "scan", "none", "of", "same", "table", "block"]
theorem menu8_nm : ∀ n : Nat, n < 8 → ∃ w, menu8[n]? = some w ∧ IsNm w := by
  intro n hn
  have : ∀ n : Fin 8, ∃ w, menu8[n.1]? = some w ∧ (1 ≤ w.length ∧ w.length ≤ 8 ∧ (w.cps.toList.all fun c => decide (97 ≤ c) && decide (c ≤ 122)) = true) := by
    intro n
    refine ⟨menu8[n.1]'(by have := n.2; show n.1 < 8; omega), by simp, ?_⟩
    revert n
    decide +kernel
  obtain ⟨w, h1, h2, h3, h4⟩ := this ⟨n, hn⟩
  refine ⟨w, h1, h2, h3, fun c hc => ?_⟩
  have := List.all_eq_true.mp h4 c hc
  simpa using this
section
variable {P : Program} {w : World} {K : PySem.W.Frag} {mg : Str → Option Value} {base : Heap}
theorem ok_name (B : Bi mg) (D : Dfn K mg "_law_name" s__law_name ["_law_bag_here", "_law_taken"]) (G_pick : Has P w K mg base CX0 "_law_pick" ["_law_bag_here", "_law_many"] 1 spPick) :
    Has P w K mg base CX0 "_law_name" ["_law_bag_here", "_law_taken"] 2 spName := by
  refine D.has sc__law_name (fun vs H Q E h => ?_) (fun f cdv A outer s H vs Q E hr h => ?_)
  · obtain ⟨b, c, t, ws, rfl, _⟩ := h; rfl
  · obtain ⟨b, c, t, ws, rfl, BG, ht, tb, tc, hw, k⟩ := h
    refine ⟨_, (pss_cons (ps_set (i := 2) sc__law_name.nd rfl (by first | exact Or.inl rfl | exact Or.inr rfl) pe_str)
  (C8.pss_cut (ps_if (pt_cmpR op_eq (pe_has G_pick hr (pa_cons (pv 0) (pa_cons pe_int pa_nil))) pe_int (nomark _))
  (pss_one (ps_set (i := 3) sc__law_name.nd rfl (by first | exact Or.inl rfl | exact Or.inr rfl) (pe_ix ix_list (pe_lst (pa_cons pe_str (pa_cons pe_str (pa_cons pe_str (pa_cons pe_str (pa_cons pe_str (pa_cons pe_str (pa_cons pe_str (pa_cons pe_str pa_nil))))))))) (pe_has G_pick hr (pa_cons (pv 0) (pa_cons pe_int pa_nil))) (fun _ _ => rfl))))
  (pss_one (ps_set (i := 3) sc__law_name.nd rfl (by first | exact Or.inl rfl | exact Or.inr rfl) (pe_join pe_str (pe_lc (own := [("_law_k", 5)]) (g := gName 5) (by rfl) sc__law_name.nd (pi_range1 rfl B.range (pa_cons (pe_op op_add pe_int (pe_has G_pick hr (pa_cons (pv 0) (pa_cons pe_int pa_nil)))) pa_nil)) (blkOk_by (own := [("_law_k", 5)]) (N := N__law_name) (sc := defScope s__law_name) (by decide +kernel)) (fun _ _ _ _ _ => (pg_name (i := 5) sc__law_name.nd rfl (by first | exact Or.inl rfl | exact Or.inr rfl))) (fun _ _ _ _ _ => pts_nil) (fun _ _ _ _ _ => (pe_ix ix_str (pv 2) (pe_has G_pick hr (pa_cons (pv 0) (pa_cons pe_int pa_nil))) (fun _ _ => rfl))))))))
  (pss_cons (ps_set (i := 4) sc__law_name.nd rfl (by first | exact Or.inl rfl | exact Or.inr rfl) (pe_slice sl_str (pv 3) po_none (po_some pe_int)))
  (C8.pss_cut (ps_for PassesOwn.never rfl (pi_range1 rfl B.range (pa_cons pe_int pa_nil)) (pg_name (i := 5) sc__law_name.nd rfl (by first | exact Or.inl rfl | exact Or.inr rfl))
  (pss_cons (ps_if (pt_cmpR op_notIn_seq (pv 3) (pv 1) (by rfl))
  (pss_one ps_break)
  pss_nil)
  (pss_one (ps_set (i := 3) sc__law_name.nd rfl (by first | exact Or.inl rfl | exact Or.inr rfl) (pe_op op_add_str (pv 4) (pe_ix ix_str (pv 2) (pv 5) (fun _ _ => rfl)))))))
  (pss_cons (ps_expr (pe_bm PySem.F.plainAttrs_list PySem.F.slot_list_append PySem.F.type_list_append mt_append (pv 1) (pa_cons (pv 3) pa_nil)))
  (pss_one (ps_ret (pv 3)))))))), ?_⟩
    -- the word drawn
    refine ⟨fun σ H' => ∃ w0 : Str, σ = [some (.ref b), some (.ref t), some (.str abc), some (.str w0), none, none] ∧ IsNm w0 ∧ Bag H' b c ∧ Kp [b] H H', ?_, ?_⟩
    · refine ⟨_, rfl, b, c, 12, rfl, BG, by decide, by decide, fun r H1 r0 r1 B1 k1 => ?_⟩
      refine ⟨rfl, _, rfl, ?_⟩
      refine ite2 (fun _ => ?_) (fun _ => ?_)
      · refine ⟨by show 8 ≤ sizeLine; decide, fun p np => ?_⟩
        have k2 := k1.snoc (o := .lst (menu8.map V.str)) np
        refine ⟨_, rfl, b, c, 8, rfl, B1.keep0 (Kp.new np), by decide, by decide, fun r H2 r0 r1 B2 k3 => ?_⟩
        have np' : H2 p = some (.lst (menu8.map V.str)) := k3.at_ p _ upd_same (fun z => by
          have e : p = b := by simpa using z
          obtain ⟨o, ho⟩ := B1.someB
          rw [← e, np] at ho; cases ho)
        obtain ⟨x, hx, nx⟩ := menu8_nm r.toNat (by omega)
        refine ⟨p, _, r, .str x, rfl, rfl, SqL.of np', atI_of r0 (by rw [List.getElem?_map, hx]; rfl), ?_⟩
        exact ⟨x, rfl, nx, B2, k2.trans k3⟩
      · refine ⟨⟨_, rfl⟩, ?_⟩
        refine ⟨_, rfl, b, c, 8, rfl, B1, by decide, by decide, fun r H2 r0 r1 B2 k2 => ?_⟩
        refine ⟨_, _, rfl, rfl, 1 + r, rfl, by omega, by omega, fun D hD => ?_⟩
        have kD := (k1.trans k2).snoc (o := .lst []) hD
        have Db : D ≠ b := fun z => by
          obtain ⟨o, ho⟩ := B2.someB
          rw [← z, hD] at ho; cases ho
        have Dc : D ≠ c := fun z => by
          obtain ⟨o, ho⟩ := B2.someC
          rw [← z, hD] at ho; cases ho
        have hDH : H D = none := by
          cases e : H D with
          | none => rfl
          | some o => rw [(k1.trans k2).at_ D o e (by simpa using Db)] at hD; cases hD
        refine lc_range (lo := 0) (n := (1 + r).toNat) (fun i H' => ∃ cs : List Nat, cs.length = i ∧ (∀ x ∈ cs, 97 ≤ x ∧ x ≤ 122) ∧ H' D = some (.lst (cs.map fun x => V.str ⟨#[x]⟩)) ∧ Bag H' b c ∧ Kp [b] H H')
          ⟨[], rfl, (fun x h => nomatch h), upd_same, B2.keep0 (Kp.new hD), kD⟩ ?_ ?_
        · rintro i H3 hi ⟨cs, hl, hc, h3, B3, k3⟩
          refine ⟨rfl, _, rfl, _, rfl, b, c, 26, rfl, B3, by decide, by decide, fun q H4 q0 q1 B4 k4 => ?_⟩
          have h4 : H4 D = some (.lst (cs.map fun x => V.str ⟨#[x]⟩)) := k4.at_ D _ h3 (by simpa using Db)
          refine ⟨abc, q, _, rfl, rfl, by rw [abc_len]; decide, abc_ix q0 q1, _, h4, ?_, ?_⟩
          · rw [List.length_map]; exact small1000 (by omega)
          · refine ⟨cs ++ [97 + q.toNat], by simp [hl], fun x hx => ?_, by rw [upd_same]; simp, ?_, (k3.trans k4).late hDH⟩
            · rcases List.mem_append.mp hx with h | h
              · exact hc x h
              · have e : x = 97 + q.toNat := by simpa using h
                omega
            · exact B4.keep (ms := [D]) (Kp.updL h4 (by simp)) (by simpa using Ne.symm Db) (by simpa using Ne.symm Dc)
        · rintro H3 ⟨cs, hl, hc, h3, B3, k3⟩
          refine ⟨_, D, cs.map fun x => (⟨#[x]⟩ : Str), rfl, rfl, .inl (SqL.of (by rw [h3, List.map_map]; rfl)), ?_, ?_⟩
          · rw [sum_ones, List.length_map, show (Str.ofString "").length = 0 by decide +kernel]
            omega
          · refine ⟨_, rfl, ?_, B3, k3⟩
            rw [txt_join_ones]
            refine ⟨?_, ?_, fun x hx => hc x (by simpa using hx)⟩
            · show 1 ≤ cs.toArray.size
              simp; omega
            · show cs.toArray.size ≤ 8
              simp; omega
    · rintro σ' H1 ⟨w0, rfl, n0, B1, k1⟩
      have ht1 : H1 t = some (.lst (ws.map V.str)) := k1.at_ t _ ht (by simpa using tb)
      obtain ⟨s7, sn⟩ := cut7 w0
      generalize hst : cutS w0 none (some 7) = st at s7 sn
      have sn' : ∀ c ∈ st.cps.toList, 97 ≤ c ∧ c ≤ 122 := fun c hc => n0.2.2 c (sn c hc)
      refine ⟨_, rfl, 7, rfl, w0, rfl, Nat.le_trans n0.2.1 (by decide), ?_⟩
      show C8.tCut _ _ _ _ _
      refine ⟨fun σ H' => ∃ (x : Str) (v : Option V), σ = [some (.ref b), some (.ref t), some (.str abc), some (.str x), some (.str st), v] ∧ IsNm x ∧ x ∉ ws ∧ H' = H1, ?_, ?_⟩
      · refine ⟨26, rfl, by decide, by decide, ?_⟩
        refine for_range (lo := 0) (n := 26) (fun i σ H' => ∃ (x : Str) (v : Option V), σ = [some (.ref b), some (.ref t), some (.str abc), some (.str x), some (.str st), v] ∧ IsNm x ∧ H' = H1 ∧ (∀ j, j + 1 < i → stemL st j ∈ ws) ∧ (0 < i → x = stemL st (i - 1)))
          ⟨w0, none, by rw [← hst]; rfl, n0, rfl, fun j h => absurd h (by omega), fun h => absurd h (by omega)⟩ ?_ ?_
        · rintro i σ H' hi ⟨x, v, rfl, nx, rfl, hj, hx⟩
          refine ⟨_, rfl, _, rfl, t, _, rfl, .inl (SqL.of ht1), rfl, flat_strs ws, _, rfl, ?_⟩
          rw [inV_strs]
          by_cases hm : x ∈ ws
          · rw [decide_eq_true hm]
            refine iteF ?_
            refine ⟨_, rfl, _, rfl, _, rfl, abc, _, _, rfl, rfl, by rw [abc_len]; decide, abc_ix (r := 0 + (i : Int)) (by omega) (by omega), _, _, rfl, rfl, ?_, ?_⟩
            · show st.length + 1 ≤ sizeLine
              exact Nat.le_trans (Nat.succ_le_succ s7) (by decide)
            · refine ⟨stemL st i, some (.int (0 + (i : Int))), ?_, stem_nm s7 sn' (by omega), rfl, fun j h => ?_, fun _ => rfl⟩
              · have e : (0 + (i : Int)).toNat = i := by omega
                rw [e]
                rfl
              · by_cases e : j + 1 < i
                · exact hj j e
                · have e2 : j = i - 1 := by omega
                  rw [e2, ← hx (by omega)]
                  exact hm
          · rw [decide_eq_false hm]
            refine iteT ?_
            exact ⟨x, _, rfl, nx, hm, rfl⟩
        · rintro σ H' ⟨x, v, rfl, nx, rfl, hj, hx⟩
          refine ⟨x, v, rfl, nx, fun hm => all_taken (s := st) hw fun j h => ?_, rfl⟩
          by_cases e : j + 1 < 26
          · exact hj j e
          · have e2 : j = 25 := by omega
            have := hx (by decide)
            rw [e2, ← this]
            exact hm
      · rintro σ' H' ⟨x, v, rfl, nx, nm, rfl⟩
        refine ⟨_, rfl, .inl ⟨rfl, _, SqL.of ht1⟩, _, rfl, t, _, _, rfl, rfl, ht1, by rw [List.length_map]; exact small1000 (by omega), ?_⟩
        refine ⟨_, rfl, ?_⟩
        refine k x _ nx nm (B1.keep (ms := [t]) (Kp.updL ht1 (by simp)) (by simpa using Ne.symm tb) (by simpa using Ne.symm tc)) (by rw [upd_same]; simp) ?_
        exact (k1.mono (by simp)).trans (Kp.updL ht1 (by simp))
end
end Fm

namespace Fm
open PySem PySem.Spec PyProof.Rows L2
/-! ### data in the heap: v tells d, at most n deep; with q = true no dict in it is locked -/
def keyD : Key → PyData
  | .inl i => .int i
  | .inr x => .str x
def DkAt (q : Bool) (H : Hp) (a : Addr) (kvs : List (Key × V)) : Prop := if q = true then H a = some (.dK kvs) else Rd H a (.dK kvs)
mutual
inductive Dt (S : Addr → Prop) (q : Bool) (H : Hp) : Nat → V → PyData → Prop
  | non {n : Nat} : Dt S q H n .non .none
  | bl {n : Nat} (b : Bool) : Dt S q H n (.bl b) (.bool b)
  | int {n : Nat} (i : Int) : Dt S q H n (.int i) (.int i)
  | str {n : Nat} (x : Str) (h : x.length ≤ 1000000) : Dt S q H n (.str x) (.str x)
  | lst {n : Nat} {a : Addr} {xs : List V} {ds : List PyData} : Rd H a (.lst xs) → xs.length ≤ 1000000 ∧ S a → DtAll S q H n xs ds → Dt S q H (n + 1) (.ref a) (.list ds)
  | tup {n : Nat} {a : Addr} {xs : List V} {ds : List PyData} : H a = some (.tup xs) → xs.length ≤ 1000000 ∧ S a → DtAll S q H n xs ds → Dt S q H (n + 1) (.ref a) (.tuple ds)
  | dic {n : Nat} {a : Addr} {kvs : List (Key × V)} {ds : List (PyData × PyData)} : DkAt q H a kvs → (kvs.length ≤ 1000000 ∧ (kvs.map (·.1)).Nodup) ∧ S a → DtKV S q H n kvs ds → Dt S q H (n + 1) (.ref a) (.dict ds)
inductive DtAll (S : Addr → Prop) (q : Bool) (H : Hp) : Nat → List V → List PyData → Prop
  | nil {n : Nat} : DtAll S q H n [] []
  | cons {n : Nat} {v : V} {vs : List V} {d : PyData} {ds : List PyData} : Dt S q H n v d → DtAll S q H n vs ds → DtAll S q H n (v :: vs) (d :: ds)
inductive DtKV (S : Addr → Prop) (q : Bool) (H : Hp) : Nat → List (Key × V) → List (PyData × PyData) → Prop
  | nil {n : Nat} : DtKV S q H n [] []
  | cons {n : Nat} {k : Key} {v : V} {vs : List (Key × V)} {d : PyData} {ds : List (PyData × PyData)} : Dt S q H n v d → DtKV S q H n vs ds → DtKV S q H n ((k, v) :: vs) ((keyD k, d) :: ds)
end
/-- what stood stands, or is locked now -/
def Sm (H H' : Hp) : Prop := ∀ a o, H a = some o → H' a = some o ∨ (∃ ob, H' a = some (.frz ob o)) ∧ (∀ ob u, o ≠ .frz ob u) ∧ ∀ xs, o ≠ .tup xs
theorem Sm.rd {H H' : Hp} (s : Sm H H') {a : Addr} {u : HO} (r : Rd H a u) : Rd H' a u := by
  rcases r with r | ⟨o, r⟩
  · rcases s a u r with h | ⟨⟨ob, h⟩, _⟩
    · exact .inl h
    · exact .inr ⟨ob, h⟩
  · rcases s a _ r with h | ⟨_, h⟩
    · exact .inr ⟨o, h⟩
    · exact absurd rfl (h.1 o u)
theorem Sm.tup {H H' : Hp} (s : Sm H H') {a : Addr} {xs : List V} (r : H a = some (.tup xs)) : H' a = some (.tup xs) := by
  rcases s a _ r with h | ⟨_, _, h⟩
  · exact h
  · exact absurd rfl (h xs)
theorem Kp.sm {H H' : Hp} (k : Kp [] H H') : Sm H H' := fun a o e => .inl (k.at_ a o e (fun z => nomatch z))
theorem Sm.lock {H : Hp} {d : Addr} {u : HO} {od : Obj} (e : H d = some u) (hu : ∀ ob x, u ≠ .frz ob x) (hv : ∀ xs, u ≠ .tup xs) : Sm H (upd H d (.frz od u)) := fun a o h => by
  by_cases z : a = d
  · rw [z, e] at h
    cases h
    exact .inr ⟨⟨od, by rw [z, upd_same]⟩, hu, hv⟩
  · exact .inl (by rw [upd_ne z]; exact h)
mutual
theorem Dt.sm {S : Addr → Prop} {H H' : Hp} (s : Sm H H') : ∀ {n : Nat} {v : V} {d : PyData}, Dt S false H n v d → Dt S false H' n v d
  | _, _, _, .non => .non
  | _, _, _, .bl b => .bl b
  | _, _, _, .int b => .int b
  | _, _, _, .str b h => .str b h
  | _, _, _, .lst r l a => .lst (s.rd r) l (DtAll.sm s a)
  | _, _, _, .tup r l a => .tup (s.tup r) l (DtAll.sm s a)
  | _, _, _, .dic r l a => .dic (show DkAt false H' _ _ from s.rd (show Rd H _ _ from r)) l (DtKV.sm s a)
theorem DtAll.sm {S : Addr → Prop} {H H' : Hp} (s : Sm H H') : ∀ {n : Nat} {v : List V} {d : List PyData}, DtAll S false H n v d → DtAll S false H' n v d
  | _, _, _, .nil => .nil
  | _, _, _, .cons a b => .cons (Dt.sm s a) (DtAll.sm s b)
theorem DtKV.sm {S : Addr → Prop} {H H' : Hp} (s : Sm H H') : ∀ {n : Nat} {v : List (Key × V)} {d : List (PyData × PyData)}, DtKV S false H n v d → DtKV S false H' n v d
  | _, _, _, .nil => .nil
  | _, _, _, .cons a b => .cons (Dt.sm s a) (DtKV.sm s b)
end
theorem Kp.rd {ms : List Addr} {H H' : Hp} {a : Addr} {u : HO} (k : Kp ms H H') (hm : a ∉ ms) (r : Rd H a u) : Rd H' a u := by
  rcases r with r | ⟨o, r⟩
  · exact .inl (k.at_ _ _ r hm)
  · exact .inr ⟨o, k.at_ _ _ r hm⟩
theorem rd_keep {H H' : Hp} {a : Addr} {u : HO} (s : ∀ o, H a = some o → H' a = some o) (r : Rd H a u) : Rd H' a u := by
  rcases r with r | ⟨o, r⟩
  · exact .inl (s _ r)
  · exact .inr ⟨o, s _ r⟩
mutual
theorem Dt.keep {S : Addr → Prop} {q : Bool} {H H' : Hp} (s : Kp [] H H') : ∀ {n : Nat} {v : V} {d : PyData}, Dt S q H n v d → Dt S q H' n v d
  | _, _, _, .non => .non
  | _, _, _, .bl b => .bl b
  | _, _, _, .int b => .int b
  | _, _, _, .str b h => .str b h
  | _, _, _, .lst r l a => .lst (s.rd (fun z => nomatch z) r) l (DtAll.keep s a)
  | _, _, _, .tup r l a => .tup (s.tp _ _ r) l (DtAll.keep s a)
  | _, _, _, .dic r l a => .dic (by
      unfold DkAt at r ⊢
      cases q with
      | true => exact s.at_ _ _ r (fun z => nomatch z)
      | false => exact s.rd (fun z => nomatch z) r) l (DtKV.keep s a)
theorem DtAll.keep {S : Addr → Prop} {q : Bool} {H H' : Hp} (s : Kp [] H H') : ∀ {n : Nat} {v : List V} {d : List PyData}, DtAll S q H n v d → DtAll S q H' n v d
  | _, _, _, .nil => .nil
  | _, _, _, .cons a b => .cons (Dt.keep s a) (DtAll.keep s b)
theorem DtKV.keep {S : Addr → Prop} {q : Bool} {H H' : Hp} (s : Kp [] H H') : ∀ {n : Nat} {v : List (Key × V)} {d : List (PyData × PyData)}, DtKV S q H n v d → DtKV S q H' n v d
  | _, _, _, .nil => .nil
  | _, _, _, .cons a b => .cons (Dt.keep s a) (DtKV.keep s b)
end
mutual
theorem Dt.keepS {S S' : Addr → Prop} {q : Bool} {H H' : Hp} (s : ∀ a o, S a → H a = some o → H' a = some o) (i : ∀ a, S a → S' a) : ∀ {n : Nat} {v : V} {d : PyData}, Dt S q H n v d → Dt S' q H' n v d
  | _, _, _, .non => .non
  | _, _, _, .bl b => .bl b
  | _, _, _, .int b => .int b
  | _, _, _, .str b h => .str b h
  | _, _, _, .lst r l a => .lst (rd_keep (fun o e => s _ o l.2 e) r) ⟨l.1, i _ l.2⟩ (DtAll.keepS s i a)
  | _, _, _, .tup r l a => .tup (s _ _ l.2 r) ⟨l.1, i _ l.2⟩ (DtAll.keepS s i a)
  | _, _, _, .dic r l a => .dic (by
      unfold DkAt at r ⊢
      cases q with
      | true => exact s _ _ l.2 r
      | false => exact rd_keep (fun o e => s _ o l.2 e) r) ⟨l.1, i _ l.2⟩ (DtKV.keepS s i a)
theorem DtAll.keepS {S S' : Addr → Prop} {q : Bool} {H H' : Hp} (s : ∀ a o, S a → H a = some o → H' a = some o) (i : ∀ a, S a → S' a) : ∀ {n : Nat} {v : List V} {d : List PyData}, DtAll S q H n v d → DtAll S' q H' n v d
  | _, _, _, .nil => .nil
  | _, _, _, .cons a b => .cons (Dt.keepS s i a) (DtAll.keepS s i b)
theorem DtKV.keepS {S S' : Addr → Prop} {q : Bool} {H H' : Hp} (s : ∀ a o, S a → H a = some o → H' a = some o) (i : ∀ a, S a → S' a) : ∀ {n : Nat} {v : List (Key × V)} {d : List (PyData × PyData)}, DtKV S q H n v d → DtKV S' q H' n v d
  | _, _, _, .nil => .nil
  | _, _, _, .cons a b => .cons (Dt.keepS s i a) (DtKV.keepS s i b)
end
theorem Dt.imp {S S' : Addr → Prop} {q : Bool} {H : Hp} {n : Nat} {v : V} {d : PyData} (h : Dt S q H n v d) (i : ∀ a, S a → S' a) : Dt S' q H n v d := h.keepS (fun _ _ _ e => e) i
theorem DtAll.imp {S S' : Addr → Prop} {q : Bool} {H : Hp} {n : Nat} {v : List V} {d : List PyData} (h : DtAll S q H n v d) (i : ∀ a, S a → S' a) : DtAll S' q H n v d := h.keepS (fun _ _ _ e => e) i
mutual
theorem Dt.weak {S : Addr → Prop} {H : Hp} : ∀ {q : Bool} {n : Nat} {v : V} {d : PyData}, Dt S q H n v d → Dt S false H n v d
  | _, _, _, _, .non => .non
  | _, _, _, _, .bl b => .bl b
  | _, _, _, _, .int b => .int b
  | _, _, _, _, .str b h => .str b h
  | _, _, _, _, .lst r l a => .lst r l (DtAll.weak a)
  | _, _, _, _, .tup r l a => .tup r l (DtAll.weak a)
  | q, _, _, _, .dic r l a => .dic (by
      unfold DkAt at r ⊢
      cases q with
      | true => exact .inl r
      | false => exact r) l (DtKV.weak a)
theorem DtAll.weak {S : Addr → Prop} {H : Hp} : ∀ {q : Bool} {n : Nat} {v : List V} {d : List PyData}, DtAll S q H n v d → DtAll S false H n v d
  | _, _, _, _, .nil => .nil
  | _, _, _, _, .cons a b => .cons (Dt.weak a) (DtAll.weak b)
theorem DtKV.weak {S : Addr → Prop} {H : Hp} : ∀ {q : Bool} {n : Nat} {v : List (Key × V)} {d : List (PyData × PyData)}, DtKV S q H n v d → DtKV S false H n v d
  | _, _, _, _, .nil => .nil
  | _, _, _, _, .cons a b => .cons (Dt.weak a) (DtKV.weak b)
end
mutual
theorem Dt.mono {S : Addr → Prop} {q : Bool} {H : Hp} : ∀ {n m : Nat} {v : V} {d : PyData}, n ≤ m → Dt S q H n v d → Dt S q H m v d
  | _, _, _, _, _, .non => .non
  | _, _, _, _, _, .bl b => .bl b
  | _, _, _, _, _, .int b => .int b
  | _, _, _, _, _, .str b h => .str b h
  | n + 1, m + 1, _, _, h, .lst r l a => .lst r l (DtAll.mono (Nat.le_of_succ_le_succ h) a)
  | n + 1, m + 1, _, _, h, .tup r l a => .tup r l (DtAll.mono (Nat.le_of_succ_le_succ h) a)
  | n + 1, m + 1, _, _, h, .dic r l a => .dic r l (DtKV.mono (Nat.le_of_succ_le_succ h) a)
theorem DtAll.mono {S : Addr → Prop} {q : Bool} {H : Hp} : ∀ {n m : Nat} {v : List V} {d : List PyData}, n ≤ m → DtAll S q H n v d → DtAll S q H m v d
  | _, _, _, _, _, .nil => .nil
  | _, _, _, _, h, .cons a b => .cons (Dt.mono h a) (DtAll.mono h b)
theorem DtKV.mono {S : Addr → Prop} {q : Bool} {H : Hp} : ∀ {n m : Nat} {v : List (Key × V)} {d : List (PyData × PyData)}, n ≤ m → DtKV S q H n v d → DtKV S q H m v d
  | _, _, _, _, _, .nil => .nil
  | _, _, _, _, h, .cons a b => .cons (Dt.mono h a) (DtKV.mono h b)
end
theorem rd_fun {H : Hp} {a : Addr} {u u' : HO} (r : Rd H a u) (r' : Rd H a u') (h : ∀ ob x, u ≠ .frz ob x) (h' : ∀ ob x, u' ≠ .frz ob x) : u = u' := by
  rcases r with r | ⟨o, r⟩ <;> rcases r' with r' | ⟨o', r'⟩ <;> rw [r] at r' <;> cases r'
  · rfl
  · exact absurd rfl (h _ _)
  · exact absurd rfl (h' _ _)
  · rfl
theorem keyD_inj {k k' : Key} (h : keyD k = keyD k') : k = k' := by
  cases k <;> cases k' <;> cases h <;> rfl
mutual
theorem Dt.det {S S' : Addr → Prop} {H : Hp} : ∀ {n m : Nat} {v : V} {d e : PyData}, Dt S false H n v d → Dt S' false H m v e → d = e
  | _, _, _, _, _, .non, .non => rfl
  | _, _, _, _, _, .bl _, .bl _ => rfl
  | _, _, _, _, _, .int _, .int _ => rfl
  | _, _, _, _, _, .str _ _, .str _ _ => rfl
  | _, _, _, _, _, .lst r l a, h => by
    cases h with
    | lst r' l' a' =>
      have e := rd_fun r r' (fun _ _ z => by cases z) (fun _ _ z => by cases z)
      cases e
      rw [DtAll.det a a']
    | tup r' l' a' =>
      have e := rd_fun r (.inl r') (fun _ _ z => by cases z) (fun _ _ z => by cases z)
      cases e
    | dic r' l' a' =>
      have e := rd_fun r (show Rd H _ _ from r') (fun _ _ z => by cases z) (fun _ _ z => by cases z)
      cases e
  | _, _, _, _, _, .tup r l a, h => by
    cases h with
    | lst r' l' a' =>
      have e := rd_fun (.inl r) r' (fun _ _ z => by cases z) (fun _ _ z => by cases z)
      cases e
    | tup r' l' a' =>
      have e := rd_fun (.inl r) (.inl r') (fun _ _ z => by cases z) (fun _ _ z => by cases z)
      cases e
      rw [DtAll.det a a']
    | dic r' l' a' =>
      have e := rd_fun (.inl r) (show Rd H _ _ from r') (fun _ _ z => by cases z) (fun _ _ z => by cases z)
      cases e
  | _, _, _, _, _, .dic r l a, h => by
    cases h with
    | lst r' l' a' =>
      have e := rd_fun (show Rd H _ _ from r) r' (fun _ _ z => by cases z) (fun _ _ z => by cases z)
      cases e
    | tup r' l' a' =>
      have e := rd_fun (show Rd H _ _ from r) (.inl r') (fun _ _ z => by cases z) (fun _ _ z => by cases z)
      cases e
    | dic r' l' a' =>
      have e := rd_fun (show Rd H _ _ from r) (show Rd H _ _ from r') (fun _ _ z => by cases z) (fun _ _ z => by cases z)
      cases e
      rw [DtKV.det a a']
theorem DtAll.det {S S' : Addr → Prop} {H : Hp} : ∀ {n m : Nat} {v : List V} {d e : List PyData}, DtAll S false H n v d → DtAll S' false H m v e → d = e
  | _, _, _, _, _, .nil, .nil => rfl
  | _, _, _, _, _, .cons a b, .cons a' b' => by rw [Dt.det a a', DtAll.det b b']
theorem DtKV.det {S S' : Addr → Prop} {H : Hp} : ∀ {n m : Nat} {v : List (Key × V)} {d e : List (PyData × PyData)}, DtKV S false H n v d → DtKV S' false H m v e → d = e
  | _, _, _, _, _, .nil, .nil => rfl
  | _, _, _, _, _, .cons a b, .cons a' b' => by rw [Dt.det a a', DtKV.det b b']
end
/-- locking a dict leaves data that is less than its own -/
theorem rd_lock {H : Hp} {a p : Addr} {u : HO} {kvs : List (Key × V)} {od : Obj} (hp : H p = some (.dK kvs)) (hu : ∀ kvs, u ≠ .dK kvs) (hf : ∀ ob x, u ≠ .frz ob x) (r : Rd H a u) : Rd (upd H p (.frz od (.dK kvs))) a u :=
  (Sm.lock (od := od) hp (fun _ _ z => by cases z) (fun _ z => by cases z)).rd r
mutual
theorem Dt.lock {S : Addr → Prop} {H : Hp} {p : Addr} {kvs : List (Key × V)} {ds : List (PyData × PyData)} {od : Obj} {m : Nat} (hp : H p = some (.dK kvs)) (hl : (kvs.length ≤ 1000000 ∧ (kvs.map (·.1)).Nodup) ∧ S p) (hd : DtKV S false H m kvs ds) : ∀ {n : Nat} {v : V} {d : PyData}, Dt S true H n v d → sizeOf d < sizeOf (PyData.dict ds) → Dt S true (upd H p (.frz od (.dK kvs))) n v d
  | _, _, _, .non, _ => .non
  | _, _, _, .bl b, _ => .bl b
  | _, _, _, .int b, _ => .int b
  | _, _, _, .str b h, _ => .str b h
  | _, _, _, .lst r l a, h => .lst (rd_lock hp (fun _ z => by cases z) (fun _ _ z => by cases z) r) l (DtAll.lock hp hl hd a (by simp at h ⊢; omega))
  | _, _, _, .tup r l a, h => .tup ((Sm.lock (od := od) hp (fun _ _ z => by cases z) (fun _ z => by cases z)).tup r) l (DtAll.lock hp hl hd a (by simp at h ⊢; omega))
  | n + 1, .ref x, .dict es, .dic (kvs := kvs') r l a, h => by
    have r' : H x = some (.dK kvs') := r
    refine .dic ?_ l (DtKV.lock hp hl hd a (by simp at h ⊢; omega))
    show upd H p _ x = some (.dK kvs')
    by_cases z : x = p
    · exfalso
      have e : Dt S false H (m + 1) (.ref x) (.dict ds) := by rw [z]; exact .dic (show Rd H p _ from .inl hp) hl hd
      have e2 : Dt S false H (n + 1) (.ref x) (.dict es) := .dic (show Rd H x _ from .inl r') l (DtKV.weak a)
      have e3 := Dt.det e2 e
      rw [e3] at h
      exact Nat.lt_irrefl _ h
    · rw [upd_ne z]; exact r'
theorem DtAll.lock {S : Addr → Prop} {H : Hp} {p : Addr} {kvs : List (Key × V)} {ds : List (PyData × PyData)} {od : Obj} {m : Nat} (hp : H p = some (.dK kvs)) (hl : (kvs.length ≤ 1000000 ∧ (kvs.map (·.1)).Nodup) ∧ S p) (hd : DtKV S false H m kvs ds) : ∀ {n : Nat} {v : List V} {d : List PyData}, DtAll S true H n v d → sizeOf d < sizeOf (PyData.dict ds) → DtAll S true (upd H p (.frz od (.dK kvs))) n v d
  | _, _, _, .nil, _ => .nil
  | _, _, _, .cons a b, h => .cons (Dt.lock hp hl hd a (by simp at h ⊢; omega)) (DtAll.lock hp hl hd b (by simp at h ⊢; omega))
theorem DtKV.lock {S : Addr → Prop} {H : Hp} {p : Addr} {kvs : List (Key × V)} {ds : List (PyData × PyData)} {od : Obj} {m : Nat} (hp : H p = some (.dK kvs)) (hl : (kvs.length ≤ 1000000 ∧ (kvs.map (·.1)).Nodup) ∧ S p) (hd : DtKV S false H m kvs ds) : ∀ {n : Nat} {v : List (Key × V)} {d : List (PyData × PyData)}, DtKV S true H n v d → sizeOf d < sizeOf (PyData.dict ds) → DtKV S true (upd H p (.frz od (.dK kvs))) n v d
  | _, _, _, .nil, _ => .nil
  | _, _, _, .cons a b, h => .cons (Dt.lock hp hl hd a (by simp at h ⊢; omega)) (DtKV.lock hp hl hd b (by simp at h ⊢; omega))
end
/-! ### items -/
theorem DtAll.len {S : Addr → Prop} {q : Bool} {H : Hp} : ∀ {n : Nat} {v : List V} {d : List PyData}, DtAll S q H n v d → v.length = d.length
  | _, _, _, .nil => rfl
  | _, _, _, .cons _ b => by rw [List.length_cons, List.length_cons, DtAll.len b]
theorem DtAll.get {S : Addr → Prop} {q : Bool} {H : Hp} : ∀ {n : Nat} {v : List V} {d : List PyData}, DtAll S q H n v d → ∀ {i : Nat} {x : PyData}, d[i]? = some x → ∃ y, v[i]? = some y ∧ Dt S q H n y x
  | _, _, _, .cons a b, 0, x, h => by cases h; exact ⟨_, rfl, a⟩
  | _, _, _, .cons a b, i + 1, x, h => b.get (i := i) h
theorem DtAll.getV {S : Addr → Prop} {q : Bool} {H : Hp} : ∀ {n : Nat} {v : List V} {d : List PyData}, DtAll S q H n v d → ∀ {i : Nat} {y : V}, v[i]? = some y → ∃ x, d[i]? = some x ∧ Dt S q H n y x
  | _, _, _, .cons a b, 0, x, h => by cases h; exact ⟨_, rfl, a⟩
  | _, _, _, .cons a b, i + 1, x, h => b.getV (i := i) h
theorem DtAll.append {S : Addr → Prop} {q : Bool} {H : Hp} : ∀ {n : Nat} {v v' : List V} {d d' : List PyData}, DtAll S q H n v d → DtAll S q H n v' d' → DtAll S q H n (v ++ v') (d ++ d')
  | _, _, _, _, _, .nil, h => h
  | _, _, _, _, _, .cons a b, h => .cons a (b.append h)
theorem DtKV.len {S : Addr → Prop} {q : Bool} {H : Hp} : ∀ {n : Nat} {v : List (Key × V)} {d : List (PyData × PyData)}, DtKV S q H n v d → v.length = d.length
  | _, _, _, .nil => rfl
  | _, _, _, .cons _ b => by rw [List.length_cons, List.length_cons, DtKV.len b]
theorem DtKV.keys {S S' : Addr → Prop} {q q' : Bool} {H H' : Hp} : ∀ {n m : Nat} {v v' : List (Key × V)} {d : List (PyData × PyData)}, DtKV S q H n v d → DtKV S' q' H' m v' d → v.map (·.1) = v'.map (·.1)
  | _, _, _, _, _, .nil, h => by cases h; rfl
  | _, _, _, _, _, .cons (k := k) a b, h => by
    generalize hd : keyD k = kd at h
    cases h with
    | @cons _ k' _ _ _ _ a' b' =>
      have e := keyD_inj hd
      rw [List.map_cons, List.map_cons, b.keys b']
      show k :: _ = k' :: _
      rw [e]
theorem DtKV.val {S S' : Addr → Prop} {q q' : Bool} {H H' : Hp} : ∀ {n m : Nat} {v v' : List (Key × V)} {d : List (PyData × PyData)}, DtKV S q H n v d → DtKV S' q' H' m v' d → ∀ (k : Key), k ∈ v.map (·.1) → ∃ x y e, valV v k = some x ∧ valV v' k = some y ∧ Dt S q H n x e ∧ Dt S' q' H' m y e ∧ sizeOf e < sizeOf (PyData.dict d)
  | _, _, _, _, _, .nil, h, k, hk => nomatch hk
  | _, _, _, _, _, .cons (k := k0) (v := v0) (vs := vs) a b, h, k, hk => by
    generalize hd : keyD k0 = kd at h
    cases h with
    | @cons _ k' v1 vs' _ _ a' b' =>
      have e := keyD_inj hd
      subst e
      by_cases z : k0 = k
      · refine ⟨_, _, _, ?_, ?_, a, a', ?_⟩
        · unfold valV; rw [List.find?_cons_of_pos (by simp [z])]; rfl
        · unfold valV; rw [List.find?_cons_of_pos (by simp [z])]; rfl
        · simp; omega
      · have hk' : k ∈ vs.map (·.1) := by
          rcases List.mem_cons.mp hk with h | h
          · exact absurd h.symm z
          · exact h
        obtain ⟨x, y, e, h1, h2, h3, h4, h5⟩ := b.val b' k hk'
        refine ⟨x, y, e, ?_, ?_, h3, h4, ?_⟩
        · unfold valV at h1 ⊢; rw [List.find?_cons_of_neg (by simp [z])]; exact h1
        · unfold valV at h2 ⊢; rw [List.find?_cons_of_neg (by simp [z])]; exact h2
        · simp at h5 ⊢; omega
theorem DtKV.getV {S : Addr → Prop} {q : Bool} {H : Hp} : ∀ {n : Nat} {v : List (Key × V)} {d : List (PyData × PyData)}, DtKV S q H n v d → ∀ {i : Nat} {k : Key} {y : V}, v[i]? = some (k, y) → ∃ x, d[i]? = some (keyD k, x) ∧ Dt S q H n y x ∧ sizeOf x < sizeOf (PyData.dict d)
  | _, _, _, .cons a b, 0, k, y, h => by
    cases h
    exact ⟨_, rfl, a, by simp; omega⟩
  | _, _, _, .cons a b, i + 1, k, y, h => by
    obtain ⟨x, h1, h2, h3⟩ := b.getV (i := i) h
    exact ⟨x, h1, h2, by simp at h3 ⊢; omega⟩
theorem DtKV.append {S : Addr → Prop} {q : Bool} {H : Hp} : ∀ {n : Nat} {v v' : List (Key × V)} {d d' : List (PyData × PyData)}, DtKV S q H n v d → DtKV S q H n v' d' → DtKV S q H n (v ++ v') (d ++ d')
  | _, _, _, _, _, .nil, h => h
  | _, _, _, _, _, .cons a b, h => .cons a (b.append h)
theorem valV_out {kvs : List (Key × V)} {k : Key} (h : k ∉ kvs.map (·.1)) : valV kvs k = none := by
  unfold valV
  rw [Option.map_eq_none_iff, List.find?_eq_none]
  intro x hx hk
  exact h (List.mem_map.mpr ⟨x, hx, of_decide_eq_true hk⟩)
theorem valV_at : ∀ {kvs : List (Key × V)} {i : Nat} {k : Key} {v : V}, (kvs.map (·.1)).Nodup → kvs[i]? = some (k, v) → valV kvs k = some v
  | [], _, _, _, _, h => by cases h
  | p :: r, 0, k, v, _, h => by
    cases h
    unfold valV
    rw [List.find?_cons_of_pos (by simp)]; rfl
  | p :: r, i + 1, k, v, nd, h => by
    have ih := valV_at (kvs := r) (i := i) (List.nodup_cons.mp nd).2 h
    have hm : k ∈ r.map (·.1) := List.mem_map.mpr ⟨(k, v), List.mem_of_getElem? h, rfl⟩
    have hne : p.1 ≠ k := fun z => (List.nodup_cons.mp nd).1 (by rw [← z] at hm; exact hm)
    unfold valV at ih ⊢
    rw [List.find?_cons_of_neg (by simp [hne])]
    exact ih
theorem nodup_at {α : Type} : ∀ {l : List α} (_ : l.Nodup) {i j : Nat} (hi : i < l.length) (hj : j < l.length), l[i] = l[j] → i = j
  | a :: l, nd, 0, 0, _, _, _ => rfl
  | a :: l, nd, 0, j + 1, _, hj, e => absurd (show a ∈ l by rw [show a = l[j]'(by simpa using hj) from e]; exact List.getElem_mem _) (List.nodup_cons.mp nd).1
  | a :: l, nd, i + 1, 0, hi, _, e => absurd (show a ∈ l by rw [← show l[i]'(by simpa using hi) = a from e]; exact List.getElem_mem _) (List.nodup_cons.mp nd).1
  | a :: l, nd, i + 1, j + 1, hi, hj, e => congrArg (· + 1) (nodup_at (List.nodup_cons.mp nd).2 (by simpa using hi) (by simpa using hj) e)
theorem notin_take {α : Type} {l : List α} {i : Nat} {x : α} (nd : l.Nodup) (h : l[i]? = some x) : x ∉ l.take i := fun hm => by
  obtain ⟨j, hj, e⟩ := List.mem_take_iff_getElem.mp hm
  obtain ⟨hi, e2⟩ := List.getElem?_eq_some_iff.mp h
  have := (nodup_at nd (by omega) hi (e.trans e2.symm))
  omega
/-! ### what isinstance tells of data -/
def tyD : PyData → Value
  | .none => .type "NoneType"
  | .bool _ => .type "bool"
  | .int _ => .type "int"
  | .str _ => .type "str"
  | .list _ => .type "list"
  | .tuple _ => .type "tuple"
  | .dict _ => .type "dict"
end Fm
namespace Fm
open PySem PySem.Spec PyProof.Rows L2
def tyS : PyData → String
  | .none => "NoneType"
  | .bool _ => "bool"
  | .int _ => "int"
  | .str _ => "str"
  | .list _ => "list"
  | .tuple _ => "tuple"
  | .dict _ => "dict"
theorem Dt.ty {S : Addr → Prop} {K : PySem.W.Frag} {q : Bool} {H : Hp} : ∀ {n : Nat} {v : V} {d : PyData}, Dt S q H n v d → TyX K H v (.type (tyS d))
  | _, _, _, .non => .base .non
  | _, _, _, .bl b => .base (.bl b)
  | _, _, _, .int b => .base (.int b)
  | _, _, _, .str b _ => .base (.str b)
  | _, _, _, .lst r l a => by
    rcases r with r | ⟨o, r⟩
    · exact .base (.lst r)
    · exact .base (.frz r)
  | _, _, _, .tup r l a => .base (.tup r)
  | _, _, _, .dic r l a => by
    have r' := (show Rd H _ _ by
      unfold DkAt at r
      cases q with
      | true => exact .inl r
      | false => exact r)
    rcases r' with r | ⟨o, r⟩
    · exact .base (.dK r)
    · exact .fDict r
def isL : PyData → Bool
  | .list _ => true
  | _ => false
theorem kb_list : ∀ d : PyData, kitB (tyS d) "list" = some (isL d)
  | .none => (by decide +kernel : kitB "NoneType" "list" = some false)
  | .bool _ => (by decide +kernel : kitB "bool" "list" = some false)
  | .int _ => (by decide +kernel : kitB "int" "list" = some false)
  | .str _ => (by decide +kernel : kitB "str" "list" = some false)
  | .list _ => (by decide +kernel : kitB "list" "list" = some true)
  | .tuple _ => (by decide +kernel : kitB "tuple" "list" = some false)
  | .dict _ => (by decide +kernel : kitB "dict" "list" = some false)
def isT : PyData → Bool
  | .tuple _ => true
  | _ => false
theorem kb_tuple : ∀ d : PyData, kitB (tyS d) "tuple" = some (isT d)
  | .none => (by decide +kernel : kitB "NoneType" "tuple" = some false)
  | .bool _ => (by decide +kernel : kitB "bool" "tuple" = some false)
  | .int _ => (by decide +kernel : kitB "int" "tuple" = some false)
  | .str _ => (by decide +kernel : kitB "str" "tuple" = some false)
  | .list _ => (by decide +kernel : kitB "list" "tuple" = some false)
  | .tuple _ => (by decide +kernel : kitB "tuple" "tuple" = some true)
  | .dict _ => (by decide +kernel : kitB "dict" "tuple" = some false)
def isM : PyData → Bool
  | .dict _ => true
  | _ => false
theorem kb_dict : ∀ d : PyData, kitB (tyS d) "dict" = some (isM d)
  | .none => (by decide +kernel : kitB "NoneType" "dict" = some false)
  | .bool _ => (by decide +kernel : kitB "bool" "dict" = some false)
  | .int _ => (by decide +kernel : kitB "int" "dict" = some false)
  | .str _ => (by decide +kernel : kitB "str" "dict" = some false)
  | .list _ => (by decide +kernel : kitB "list" "dict" = some false)
  | .tuple _ => (by decide +kernel : kitB "tuple" "dict" = some false)
  | .dict _ => (by decide +kernel : kitB "dict" "dict" = some true)
def isB : PyData → Bool
  | .bool _ => true
  | _ => false
theorem kb_bool : ∀ d : PyData, kitB (tyS d) "bool" = some (isB d)
  | .none => (by decide +kernel : kitB "NoneType" "bool" = some false)
  | .bool _ => (by decide +kernel : kitB "bool" "bool" = some true)
  | .int _ => (by decide +kernel : kitB "int" "bool" = some false)
  | .str _ => (by decide +kernel : kitB "str" "bool" = some false)
  | .list _ => (by decide +kernel : kitB "list" "bool" = some false)
  | .tuple _ => (by decide +kernel : kitB "tuple" "bool" = some false)
  | .dict _ => (by decide +kernel : kitB "dict" "bool" = some false)
def isI : PyData → Bool
  | .bool _ => true
  | .int _ => true
  | _ => false
theorem kb_int : ∀ d : PyData, kitB (tyS d) "int" = some (isI d)
  | .none => (by decide +kernel : kitB "NoneType" "int" = some false)
  | .bool _ => (by decide +kernel : kitB "bool" "int" = some true)
  | .int _ => (by decide +kernel : kitB "int" "int" = some true)
  | .str _ => (by decide +kernel : kitB "str" "int" = some false)
  | .list _ => (by decide +kernel : kitB "list" "int" = some false)
  | .tuple _ => (by decide +kernel : kitB "tuple" "int" = some false)
  | .dict _ => (by decide +kernel : kitB "dict" "int" = some false)
def isS : PyData → Bool
  | .str _ => true
  | _ => false
theorem kb_str : ∀ d : PyData, kitB (tyS d) "str" = some (isS d)
  | .none => (by decide +kernel : kitB "NoneType" "str" = some false)
  | .bool _ => (by decide +kernel : kitB "bool" "str" = some false)
  | .int _ => (by decide +kernel : kitB "int" "str" = some false)
  | .str _ => (by decide +kernel : kitB "str" "str" = some true)
  | .list _ => (by decide +kernel : kitB "list" "str" = some false)
  | .tuple _ => (by decide +kernel : kitB "tuple" "str" = some false)
  | .dict _ => (by decide +kernel : kitB "dict" "str" = some false)
theorem isi1 {S : Addr → Prop} {K : PySem.W.Frag} {q : Bool} {H : Hp} {n : Nat} {x : V} {d : PyData} {T : String} {b : Bool} {Q : VK} (h : Dt S q H n x d) (hb : kitB (tyS d) T = some b) (hq : Q (.bl b) H) : rIsi K [x, .ty T] H Q :=
  ⟨x, .ty T, .type (tyS d), .type T, b, rfl, .ty T, h.ty, kit_ty hb, hq⟩
def isRowD : PyData → Bool
  | .list _ => true
  | .tuple _ => true
  | _ => false
theorem kit_row {K : PySem.W.Frag} (d : PyData) : PySem.W.kitAny K (.type (tyS d)) [.type "list", .type "tuple"] = some (isRowD d) := by
  refine kitAny_cons (kit_ty (kb_list d)) (fun e => kitAny_cons (kit_ty (kb_tuple d)) (fun e' => ?_) (fun e' => ?_)) (fun e => ?_)
  · cases d <;> first | rfl | exact Bool.noConfusion e' | exact Bool.noConfusion e
  · cases d <;> first | rfl | exact Bool.noConfusion e' | exact Bool.noConfusion e
  · cases d <;> first | rfl | exact Bool.noConfusion e
theorem isiR {S : Addr → Prop} {K : PySem.W.Frag} {q : Bool} {H : Hp} {n : Nat} {x : V} {d : PyData} {T : Addr} {Q : VK} (h : Dt S q H n x d) (hT : H T = some (.tup [.ty "list", .ty "tuple"])) (hq : Q (.bl (isRowD d)) H) : rIsiT K [x, .ref T] H Q :=
  ⟨x, T, _, .type (tyS d), [.type "list", .type "tuple"], _, rfl, hT, .cons (.ty _) (.cons (.ty _) .nil), h.ty, kit_row d, hq⟩
theorem iteB {b c : Bool} {A B : Prop} (e : b = c) (h : if c = true then A else B) : if b = true then A else B := by rw [e]; exact h
theorem callR_or {X : Cx} {f : Value} {r r' : List V → Hp → VK → Prop} (h : CallR X f r) (h' : CallR X f r') : CallR X f (fun xs H Q => r xs H Q ∨ r' xs H Q) := by
  intro pins s σ H xs us Q I rv q
  rcases q with q | q
  · exact h pins s σ H xs us Q I rv q
  · exact h' pins s σ H xs us Q I rv q
theorem opR_or {X : Cx} {f : Value → Value → Sem Value} {r r' : R2} (h : OpR X f r) (h' : OpR X f r') : OpR X f (fun x y H Q => r x y H Q ∨ r' x y H Q) := by
  intro pins s σ H x y v u Q I rx ry q
  rcases q with q | q
  · exact h pins s σ H x y v u Q I rx ry q
  · exact h' pins s σ H x y v u Q I rx ry q
/-- len of a dict, locked or not -/
theorem call_lenR {X : Cx} : CallR X (.builtin "len") (fun xs H Q => ∃ a kvs, xs = [V.ref a] ∧ Rd H a (.dK kvs) ∧ Q (.int kvs.length) H) := by
  intro pins s σ H xs us Q I r h
  obtain ⟨a, kvs, rfl, ha, q⟩ := h
  obtain ⟨u, rfl, ru⟩ := vals1 r
  cases ru
  exact d_len I ha fun t s' I' => ⟨.int kvs.length, H, I', ⟨t, rfl⟩, q⟩
/-- a def of which nothing is promised -/
theorem Dfn.none {P : Program} {w : World} {K : PySem.W.Frag} {mg : Str → Option Value} {base : Heap} {x : Str} {st : Stmt} {ps : List Str} {CX : CXT} {k : Nat} (D : Dfn K mg x st ps) : Has P w K mg base CX x ps k (fun _ _ _ _ => False) := by
  obtain ⟨f, fd, F, g, b⟩ := D
  exact ⟨f, fd, ⟨fun _ _ _ _ h => h.elim, fun _ _ _ _ _ _ _ _ _ _ _ _ _ h => h.elim⟩, g, F.kp, b⟩
end Fm
namespace Fm
open PySem PySem.Spec PyProof.Rows L2
theorem rd_some {H : Hp} {a : Addr} {u : HO} (r : Rd H a u) : H a ≠ none := by
  rcases r with r | ⟨o, r⟩ <;> rw [r] <;> exact fun z => nomatch z
mutual
theorem Dt.inH {S : Addr → Prop} {q : Bool} {H : Hp} : ∀ {n : Nat} {v : V} {d : PyData}, Dt S q H n v d → Dt (fun a => S a ∧ H a ≠ none) q H n v d
  | _, _, _, .non => .non
  | _, _, _, .bl b => .bl b
  | _, _, _, .int b => .int b
  | _, _, _, .str b h => .str b h
  | _, _, _, .lst r l a => .lst r ⟨l.1, l.2, rd_some r⟩ (DtAll.inH a)
  | _, _, _, .tup r l a => .tup r ⟨l.1, l.2, rd_some (.inl r)⟩ (DtAll.inH a)
  | _, _, _, .dic r l a => .dic r ⟨l.1, l.2, by
      unfold DkAt at r
      cases q with
      | true => exact rd_some (.inl r)
      | false => exact rd_some r⟩ (DtKV.inH a)
theorem DtAll.inH {S : Addr → Prop} {q : Bool} {H : Hp} : ∀ {n : Nat} {v : List V} {d : List PyData}, DtAll S q H n v d → DtAll (fun a => S a ∧ H a ≠ none) q H n v d
  | _, _, _, .nil => .nil
  | _, _, _, .cons a b => .cons (Dt.inH a) (DtAll.inH b)
theorem DtKV.inH {S : Addr → Prop} {q : Bool} {H : Hp} : ∀ {n : Nat} {v : List (Key × V)} {d : List (PyData × PyData)}, DtKV S q H n v d → DtKV (fun a => S a ∧ H a ≠ none) q H n v d
  | _, _, _, .nil => .nil
  | _, _, _, .cons a b => .cons (Dt.inH a) (DtKV.inH b)
end
end Fm

namespace Fm
open PySem PySem.Spec PyProof.Rows L2
def spAlike (n : Nat) : Sp := fun vs H Q _ => ∃ (S S' : Addr → Prop) (x y : V) (d : PyData), vs = [x, y] ∧ Dt S true H n x d ∧ Dt S' false H n y d ∧ ∀ H', Kp [] H H' → Q (.bl true) H'
def spAlikeB : Nat → Sp
  | 0 => fun _ _ _ _ => False
  | n + 1 => spAlike n
theorem reps_snoc (i : Nat) : (List.replicate i true).map V.bl ++ [V.bl true] = (List.replicate (i + 1) true).map V.bl := by
  rw [List.replicate_succ', List.map_append]; rfl
theorem reps_all (i : Nat) : (List.replicate i true).all id = true := by
  rw [List.all_eq_true]
  intro x hx
  rw [(List.mem_replicate.mp hx).2]; rfl
section
variable {P : Program} {w : World} {K : PySem.W.Frag} {mg : Str → Option Value} {base : Heap}
theorem step_alike (B : Bi mg) (D : Dfn K mg "_law_alike" s__law_alike ["_law_one", "_law_other"]) (n : Nat) (G_alike : Has P w K mg base CX0 "_law_alike" ["_law_one", "_law_other"] n (spAlikeB n)) :
    Has P w K mg base CX0 "_law_alike" ["_law_one", "_law_other"] (n + 1) (spAlike n) := by
  refine D.has sc__law_alike (fun vs H Q E h => ?_) (fun f cdv A outer s H vs Q E hr h => ?_)
  · obtain ⟨S, S', x, y, d, rfl, _⟩ := h; rfl
  · obtain ⟨S, S', x, y, d, rfl, hx, hy, k⟩ := h
    have hu := hu_of hr
    refine ⟨_, (pss_cons (ps_if (pt_val (pe_callB call_isiT (by rfl) B.isinstance (by decide +kernel) (pa_cons (pv 0) (pa_cons (pe_tup (pa_cons (pe_bltn (v := .ty "list") (by rfl) B.list (by decide +kernel) rfl) (pa_cons (pe_bltn (v := .ty "tuple") (by rfl) B.tuple (by decide +kernel) rfl) pa_nil))) pa_nil))))
  (pss_cons (ps_if (PW.pt (pw_or (pt_cmpR op_ne (pe_callB call_isi (by rfl) B.isinstance (by decide +kernel) (pa_cons (pv 0) (pa_cons (pe_bltn (v := .ty "list") (by rfl) B.list (by decide +kernel) rfl) pa_nil))) (pe_callB call_isi (by rfl) B.isinstance (by decide +kernel) (pa_cons (pv 1) (pa_cons (pe_bltn (v := .ty "list") (by rfl) B.list (by decide +kernel) rfl) pa_nil))) (nomark _)) (pw_or1 (pt_cmpR op_ne (pe_callB call_isi (by rfl) B.isinstance (by decide +kernel) (pa_cons (pv 0) (pa_cons (pe_bltn (v := .ty "tuple") (by rfl) B.tuple (by decide +kernel) rfl) pa_nil))) (pe_callB call_isi (by rfl) B.isinstance (by decide +kernel) (pa_cons (pv 1) (pa_cons (pe_bltn (v := .ty "tuple") (by rfl) B.tuple (by decide +kernel) rfl) pa_nil))) (nomark _)))))
  (pss_one (ps_ret pe_bl))
  pss_nil)
  (pss_cons (ps_if (pt_cmpR op_ne (pe_callB call_len (by rfl) B.len PySem.boot_len (pa_cons (pv 0) pa_nil)) (pe_callB call_len (by rfl) B.len PySem.boot_len (pa_cons (pv 1) pa_nil)) (nomark _))
  (pss_one (ps_ret pe_bl))
  pss_nil)
  (pss_one (ps_ret (pe_callB (cr_all rfl) (by rfl) B.all (by decide +kernel) (pa_cons (pe_lc (own := [("_law_k", 2)]) (g := gName 2) (by rfl) sc__law_alike.nd (pi_range1 rfl B.range (pa_cons (pe_callB call_len (by rfl) B.len PySem.boot_len (pa_cons (pv 0) pa_nil)) pa_nil)) (blkOk_by (own := [("_law_k", 2)]) (N := N__law_alike) (sc := defScope s__law_alike) (by decide +kernel)) (fun _ _ _ _ _ => (pg_name (i := 2) sc__law_alike.nd rfl (by first | exact Or.inl rfl | exact Or.inr rfl))) (fun _ _ _ _ _ => pts_nil) (fun _ _ _ _ _ => (pe_has G_alike hr (pa_cons (pe_ix (r := rIx K) ix_seq (pv 0) (pv 2) (fun _ _ => rfl)) (pa_cons (pe_ix (r := rIx K) ix_seq (pv 1) (pv 2) (fun _ _ => rfl)) pa_nil))))) pa_nil))))))
  pss_nil)
  (pss_cons (ps_if (PW.pt (pw_and (pt_val (pe_callB call_isi (by rfl) B.isinstance (by decide +kernel) (pa_cons (pv 0) (pa_cons (pe_bltn (v := .ty "dict") (by rfl) B.dict (by decide +kernel) rfl) pa_nil)))) (pw_and1 (pt_val (pe_callB call_isi (by rfl) B.isinstance (by decide +kernel) (pa_cons (pv 1) (pa_cons (pe_bltn (v := .ty "dict") (by rfl) B.dict (by decide +kernel) rfl) pa_nil)))))))
  (pss_cons (ps_if (pt_cmpR op_ne (pe_callB call_lenR (by rfl) B.len PySem.boot_len (pa_cons (pv 0) pa_nil)) (pe_callB call_lenR (by rfl) B.len PySem.boot_len (pa_cons (pv 1) pa_nil)) (nomark _))
  (pss_one (ps_ret pe_bl))
  pss_nil)
  (pss_one (ps_ret (pe_callB (cr_all rfl) (by rfl) B.all (by decide +kernel) (pa_cons (pe_lock (pe_lc (own := [("_law_key", 3)]) (g := gName 3) (by rfl) sc__law_alike.nd (pi_keys (pv 0)) (blkOk_by (own := [("_law_key", 3)]) (N := N__law_alike) (sc := defScope s__law_alike) (by decide +kernel)) (fun _ _ _ _ _ => (pg_name (i := 3) sc__law_alike.nd rfl (by first | exact Or.inl rfl | exact Or.inr rfl))) (fun _ _ _ _ _ => pts_nil) (fun _ _ _ _ _ => (pe_and (pe_cmp (pc_din hu (pv 3) (pv 1)) rfl) (pe_one (pe_has G_alike hr (pa_cons (pe_dget hu (pv 0) (pv 3) (fun _ _ => rfl)) (pa_cons (pe_dget1 hu (pv 1) (pv 3) ⟨rfl, rfl, rfl, rfl⟩) pa_nil)))))))) pa_nil)))))
  pss_nil)
  (pss_one (ps_ret (pe_and (pe_cmpR op_eq (pe_callB call_isi (by rfl) B.isinstance (by decide +kernel) (pa_cons (pv 0) (pa_cons (pe_bltn (v := .ty "bool") (by rfl) B.bool (by decide +kernel) rfl) pa_nil))) (pe_callB call_isi (by rfl) B.isinstance (by decide +kernel) (pa_cons (pv 1) (pa_cons (pe_bltn (v := .ty "bool") (by rfl) B.bool (by decide +kernel) rfl) pa_nil))) (nomark _)) (pe_one (pe_cmpR op_eq (pv 0) (pv 1) (nomark _)))))))), ?_⟩
    -- isinstance(one, (list, tuple))
    refine ⟨_, rfl, (by show 2 ≤ sizeLine; decide), fun T hT => ⟨_, T, _, _, _, _, rfl, upd_same, .cons (.ty _) (.cons (.ty _) .nil), (hx.keep (Kp.new hT)).ty, kit_row _, _, rfl, ?_⟩⟩
    have hx1 := hx.keep (Kp.new (o := .tup [.ty "list", .ty "tuple"]) hT)
    have hy1 := hy.keep (Kp.new (o := .tup [.ty "list", .ty "tuple"]) hT)
    have k1 : Kp [] H (upd H T (.tup [.ty "list", .ty "tuple"])) := Kp.new hT
    generalize upd H T (.tup [.ty "list", .ty "tuple"]) = H1 at hx1 hy1 k1 ⊢
    cases d with
    | list ds =>
      refine iteT ?_
      cases hx1 with
      | @lst m p xs _ rx lx ax =>
        cases hy1 with
        | @lst _ p' ys _ ry ly ay =>
          have hx1 : Dt S true H1 (m + 1) (.ref p) (.list ds) := .lst rx lx ax
          have hy1 : Dt S' false H1 (m + 1) (.ref p') (.list ds) := .lst ry ly ay
          have hl : xs.length = ys.length := ax.len.trans ay.len.symm
          refine ⟨_, rfl, _, _, _, _, _, rfl, .ty _, hx1.ty, kit_ty (kb_list _), _, rfl, _, _, _, _, _, rfl, .ty _, hy1.ty, kit_ty (kb_list _), rfl, _, rfl, iteF ?_⟩
          refine ⟨_, rfl, _, _, _, _, _, rfl, .ty _, hx1.ty, kit_ty (kb_tuple _), _, rfl, _, _, _, _, _, rfl, .ty _, hy1.ty, kit_ty (kb_tuple _), rfl, _, rfl, iteF ?_⟩
          refine ⟨_, rfl, _, _, rfl, .inl ⟨_, .inl rx, rfl⟩, _, rfl, _, _, rfl, .inl ⟨_, .inl ry, rfl⟩, rfl, _, rfl, ?_⟩
          refine iteNS (by rw [hl]) ?_
          refine ⟨_, rfl, _, _, rfl, .inl ⟨_, .inl rx, rfl⟩, (xs.length : Int), rfl, by omega, (by have := lx.1; omega), fun D hD => ?_⟩
          have hDH : H D = none := by
            cases e : H D with
            | none => rfl
            | some o => rw [k1.at_ D o e (fun z => nomatch z)] at hD; cases hD
          refine lc_range (lo := 0) (n := (xs.length : Int).toNat) (fun i H' => H' D = some (.lst ((List.replicate i true).map V.bl)) ∧ Kp [] H1 H') ⟨upd_same, Kp.new hD⟩ ?_ ?_
          · rintro i H2 hi ⟨h2, k2⟩
            have hi' : i < xs.length := by omega
            obtain ⟨u, hu1⟩ : ∃ u, xs[i]? = some u := ⟨xs[i], List.getElem?_eq_getElem hi'⟩
            obtain ⟨d, hd, du⟩ := ax.getV hu1
            obtain ⟨v, hv1, dv⟩ := ay.get hd
            have e0 : (0 + (i : Int)).toNat = i := by omega
            refine ⟨rfl, _, rfl, _, rfl, .inl ⟨_, _, _, u, rfl, rfl, .inl (k2.rd (fun z => nomatch z) rx), atI_of (by omega) (by rw [e0]; exact hu1), ?_⟩⟩
            refine ⟨_, rfl, _, rfl, .inl ⟨_, _, _, v, rfl, rfl, .inl (k2.rd (fun z => nomatch z) ry), atI_of (by omega) (by rw [e0]; exact hv1), ?_⟩⟩
            refine ⟨S, S', u, v, d, rfl, du.keep k2, dv.keep k2, fun H3 k3 => ?_⟩
            refine ⟨_, k3.at_ _ _ h2 (fun z => nomatch z), ?_, ?_, (k2.trans k3).late hD⟩
            · rw [List.length_map, List.length_replicate]
              exact Nat.lt_of_lt_of_le hi' (Nat.le_trans lx.1 (by decide))
            · rw [upd_same, reps_snoc]
          · rintro H2 ⟨h2, k2⟩
            refine ⟨D, _, rfl, SqL.of h2, ?_⟩
            rw [reps_all]
            exact k H2 (k1.trans k2)
    | tuple ds =>
      refine iteT ?_
      cases hx1 with
      | @tup m p xs _ rx lx ax =>
        cases hy1 with
        | @tup _ p' ys _ ry ly ay =>
          have hx1 : Dt S true H1 (m + 1) (.ref p) (.tuple ds) := .tup rx lx ax
          have hy1 : Dt S' false H1 (m + 1) (.ref p') (.tuple ds) := .tup ry ly ay
          have hl : xs.length = ys.length := ax.len.trans ay.len.symm
          refine ⟨_, rfl, _, _, _, _, _, rfl, .ty _, hx1.ty, kit_ty (kb_list _), _, rfl, _, _, _, _, _, rfl, .ty _, hy1.ty, kit_ty (kb_list _), rfl, _, rfl, iteF ?_⟩
          refine ⟨_, rfl, _, _, _, _, _, rfl, .ty _, hx1.ty, kit_ty (kb_tuple _), _, rfl, _, _, _, _, _, rfl, .ty _, hy1.ty, kit_ty (kb_tuple _), rfl, _, rfl, iteF ?_⟩
          refine ⟨_, rfl, _, _, rfl, .inr ⟨_, .inl (.inl rx), rfl⟩, _, rfl, _, _, rfl, .inr ⟨_, .inl (.inl ry), rfl⟩, rfl, _, rfl, ?_⟩
          refine iteNS (by rw [hl]) ?_
          refine ⟨_, rfl, _, _, rfl, .inr ⟨_, .inl (.inl rx), rfl⟩, (xs.length : Int), rfl, by omega, (by have := lx.1; omega), fun D hD => ?_⟩
          have hDH : H D = none := by
            cases e : H D with
            | none => rfl
            | some o => rw [k1.at_ D o e (fun z => nomatch z)] at hD; cases hD
          refine lc_range (lo := 0) (n := (xs.length : Int).toNat) (fun i H' => H' D = some (.lst ((List.replicate i true).map V.bl)) ∧ Kp [] H1 H') ⟨upd_same, Kp.new hD⟩ ?_ ?_
          · rintro i H2 hi ⟨h2, k2⟩
            have hi' : i < xs.length := by omega
            obtain ⟨u, hu1⟩ : ∃ u, xs[i]? = some u := ⟨xs[i], List.getElem?_eq_getElem hi'⟩
            obtain ⟨d, hd, du⟩ := ax.getV hu1
            obtain ⟨v, hv1, dv⟩ := ay.get hd
            have e0 : (0 + (i : Int)).toNat = i := by omega
            refine ⟨rfl, _, rfl, _, rfl, .inr (.inl ⟨_, _, _, u, rfl, rfl, .inl (.inl (k2.tp _ _ rx)), atI_of (by omega) (by rw [e0]; exact hu1), ?_⟩)⟩
            refine ⟨_, rfl, _, rfl, .inr (.inl ⟨_, _, _, v, rfl, rfl, .inl (.inl (k2.tp _ _ ry)), atI_of (by omega) (by rw [e0]; exact hv1), ?_⟩)⟩
            refine ⟨S, S', u, v, d, rfl, du.keep k2, dv.keep k2, fun H3 k3 => ?_⟩
            refine ⟨_, k3.at_ _ _ h2 (fun z => nomatch z), ?_, ?_, (k2.trans k3).late hD⟩
            · rw [List.length_map, List.length_replicate]
              exact Nat.lt_of_lt_of_le hi' (Nat.le_trans lx.1 (by decide))
            · rw [upd_same, reps_snoc]
          · rintro H2 ⟨h2, k2⟩
            refine ⟨D, _, rfl, SqL.of h2, ?_⟩
            rw [reps_all]
            exact k H2 (k1.trans k2)
    | dict ds =>
      refine iteF ?_
      cases hx1 with
      | @dic m p kvs _ rx lx ax =>
        cases hy1 with
        | @dic _ p' lvs _ ry ly ay =>
          have hx1 : Dt S true H1 (m + 1) (.ref p) (.dict ds) := .dic rx lx ax
          have hy1 : Dt S' false H1 (m + 1) (.ref p') (.dict ds) := .dic ry ly ay
          have rx' : H1 p = some (.dK kvs) := rx
          have ry' : Rd H1 p' (.dK lvs) := ry
          have hl : kvs.length = lvs.length := ax.len.trans ay.len.symm
          refine ⟨_, rfl, _, _, _, _, _, rfl, .ty _, hx1.ty, kit_ty (kb_dict _), _, rfl, iteT ?_⟩
          refine ⟨_, rfl, _, _, _, _, _, rfl, .ty _, hy1.ty, kit_ty (kb_dict _), _, rfl, iteT ?_⟩
          refine ⟨_, rfl, _, _, rfl, .inl rx', _, rfl, _, _, rfl, ry', rfl, _, rfl, ?_⟩
          refine iteNS (by rw [hl]) ?_
          refine ⟨p, _, rx', trivial, fun od => ?_⟩
          have sl : Sm H1 (upd H1 p (.frz od (.dK kvs))) := Sm.lock rx' (fun _ _ z => by cases z) (fun _ z => by cases z)
          refine ⟨_, rfl, p, od, rfl, .inl ⟨kvs, upd_same, fun D hD => ?_⟩⟩
          have Dp : D ≠ p := fun z => by rw [z, upd_same] at hD; cases hD
          have hD1 : H1 D = none := by rw [upd_ne Dp] at hD; exact hD
          refine lc_it (walk_keys (kvs := kvs)) (fun i H' => H' D = some (.lst ((List.replicate i true).map V.bl)) ∧ Kp [] (upd H1 p (.frz od (.dK kvs))) H') ⟨upd_same, Kp.new hD⟩ ?_ ?_ ?_
          · rintro i H2 hi ⟨h2, k2⟩
            exact k2.at_ p _ upd_same (fun z => nomatch z)
          · rintro i xk H2 H3 hi ⟨h2, k2⟩ ⟨rfl, kk, vv, hk, rfl⟩
            have mk : kk ∈ kvs.map (·.1) := List.mem_map.mpr ⟨(kk, vv), List.mem_of_getElem? hk, rfl⟩
            obtain ⟨u, v, e, hu1, hv1, du, dv, hs⟩ := ax.val ay kk mk
            have rd1 : Rd H3 p (.dK kvs) := .inr ⟨od, k2.at_ p _ upd_same (fun z => nomatch z)⟩
            have rd2 : Rd H3 p' (.dK lvs) := k2.rd (fun z => nomatch z) (sl.rd ry')
            refine ⟨rfl, _, rfl, _, rfl, p', some v, rfl, .inl ⟨lvs, kk, rd2, rfl, hv1.symm⟩, _, rfl, iteT ?_⟩
            refine ⟨_, rfl, _, rfl, p, u, rfl, .inl ⟨kvs, kk, rd1, rfl, hu1.symm⟩, ?_⟩
            refine ⟨_, rfl, p', rfl, .inl ⟨lvs, rd2⟩, _, rfl, some v, .inl ⟨lvs, kk, rd2, rfl, hv1.symm⟩, ?_⟩
            refine ⟨S, S', u, v, e, rfl, (du.lock rx' lx ax.weak hs).keep k2, (dv.sm sl).keep k2, fun H4 k4 => ?_⟩
            refine ⟨_, k4.at_ _ _ h2 (fun z => nomatch z), ?_, ?_, (k2.trans k4).late hD⟩
            · rw [List.length_map, List.length_replicate]
              exact Nat.lt_of_lt_of_le hi (Nat.le_trans lx.1.1 (by decide))
            · rw [upd_same, reps_snoc]
          · rintro H2 ⟨h2, k2⟩
            refine ⟨k2.at_ p _ upd_same (fun z => nomatch z), ?_⟩
            refine ⟨D, _, rfl, SqL.of (by rw [upd_ne Dp]; exact h2), ?_⟩
            rw [reps_all]
            refine k _ (k1.trans ⟨fun a o e _ => ?_, fun a xs e => ?_⟩)
            · by_cases z : a = p
              · rw [z, upd_same]; rw [z, rx'] at e; exact e
              · rw [upd_ne z]; exact k2.at_ a o (by rw [upd_ne z]; exact e) (fun z => nomatch z)
            · by_cases z : a = p
              · rw [z, rx'] at e; cases e
              · rw [upd_ne z]; exact k2.tp a xs (by rw [upd_ne z]; exact e)
    | none =>
      refine iteF ?_
      cases hx1
      cases hy1
      refine ⟨_, rfl, _, _, _, _, _, rfl, .ty _, (Dt.non (S := S) (q := true) (H := H1) (n := 0)).ty, kit_ty (kb_dict _), _, rfl, iteF ?_⟩
      refine iteF ?_
      refine ⟨_, rfl, _, _, _, _, _, rfl, .ty _, (Dt.non (S := S) (q := true) (H := H1) (n := 0)).ty, kit_ty (kb_bool _), _, rfl, _, _, _, _, _, rfl, .ty _, (Dt.non (S := S) (q := true) (H := H1) (n := 0)).ty, kit_ty (kb_bool _), rfl, _, rfl, iteT ?_⟩
      refine ⟨_, rfl, _, rfl, rfl, ?_⟩
      rw [decide_eq_true rfl]
      exact k H1 k1
    | bool b =>
      refine iteF ?_
      cases hx1
      cases hy1
      refine ⟨_, rfl, _, _, _, _, _, rfl, .ty _, (Dt.bl (S := S) (q := true) (H := H1) (n := 0) b).ty, kit_ty (kb_dict _), _, rfl, iteF ?_⟩
      refine iteF ?_
      refine ⟨_, rfl, _, _, _, _, _, rfl, .ty _, (Dt.bl (S := S) (q := true) (H := H1) (n := 0) b).ty, kit_ty (kb_bool _), _, rfl, _, _, _, _, _, rfl, .ty _, (Dt.bl (S := S) (q := true) (H := H1) (n := 0) b).ty, kit_ty (kb_bool _), rfl, _, rfl, iteT ?_⟩
      refine ⟨_, rfl, _, rfl, rfl, ?_⟩
      rw [decide_eq_true rfl]
      exact k H1 k1
    | int i =>
      refine iteF ?_
      cases hx1
      cases hy1
      refine ⟨_, rfl, _, _, _, _, _, rfl, .ty _, (Dt.int (S := S) (q := true) (H := H1) (n := 0) i).ty, kit_ty (kb_dict _), _, rfl, iteF ?_⟩
      refine iteF ?_
      refine ⟨_, rfl, _, _, _, _, _, rfl, .ty _, (Dt.int (S := S) (q := true) (H := H1) (n := 0) i).ty, kit_ty (kb_bool _), _, rfl, _, _, _, _, _, rfl, .ty _, (Dt.int (S := S) (q := true) (H := H1) (n := 0) i).ty, kit_ty (kb_bool _), rfl, _, rfl, iteT ?_⟩
      refine ⟨_, rfl, _, rfl, rfl, ?_⟩
      rw [decide_eq_true rfl]
      exact k H1 k1
    | str z =>
      refine iteF ?_
      cases hx1 with
      | str _ hz =>
      cases hy1
      refine ⟨_, rfl, _, _, _, _, _, rfl, .ty _, (Dt.str (S := S) (q := true) (H := H1) (n := 0) z hz).ty, kit_ty (kb_dict _), _, rfl, iteF ?_⟩
      refine iteF ?_
      refine ⟨_, rfl, _, _, _, _, _, rfl, .ty _, (Dt.str (S := S) (q := true) (H := H1) (n := 0) z hz).ty, kit_ty (kb_bool _), _, rfl, _, _, _, _, _, rfl, .ty _, (Dt.str (S := S) (q := true) (H := H1) (n := 0) z hz).ty, kit_ty (kb_bool _), rfl, _, rfl, iteT ?_⟩
      refine ⟨_, rfl, _, rfl, rfl, ?_⟩
      rw [decide_eq_true rfl]
      exact k H1 k1
theorem ok_alike (B : Bi mg) (D : Dfn K mg "_law_alike" s__law_alike ["_law_one", "_law_other"]) : ∀ n : Nat, Has P w K mg base CX0 "_law_alike" ["_law_one", "_law_other"] (n + 1) (spAlike n)
  | 0 => step_alike B D 0 D.none
  | n + 1 => step_alike B D (n + 1) (ok_alike B D n)
end
end Fm

namespace Fm
open PySem PySem.Spec PyProof.Rows L2
/-- the new thing tells the same data, and reaches none of what stood -/
def spCopied (n : Nat) : Sp := fun vs H Q _ => ∃ (S : Addr → Prop) (x : V) (d : PyData), vs = [x] ∧ Dt S true H n x d ∧ ∀ y H', Kp [] H H' → Dt (fun a => H a = none) true H' n y d → Q y H'
def spCopiedB : Nat → Sp
  | 0 => fun _ _ _ _ => False
  | n + 1 => spCopied n
theorem take_snoc {α : Type} {l : List α} {i : Nat} {x : α} (h : l[i]? = some x) : l.take (i + 1) = l.take i ++ [x] := by
  have hi : i < l.length := (List.getElem?_eq_some_iff.mp h).1
  rw [List.take_succ, h]; rfl
section
variable {P : Program} {w : World} {K : PySem.W.Frag} {mg : Str → Option Value} {base : Heap}
theorem step_copied (B : Bi mg) (D : Dfn K mg "_law_copied" s__law_copied ["_law_thing"]) (n : Nat) (G_copied : Has P w K mg base CX0 "_law_copied" ["_law_thing"] n (spCopiedB n)) :
    Has P w K mg base CX0 "_law_copied" ["_law_thing"] (n + 1) (spCopied n) := by
  refine D.has sc__law_copied (fun vs H Q E h => ?_) (fun f cdv A outer s H vs Q E hr h => ?_)
  · obtain ⟨S, x, d, rfl, _⟩ := h; rfl
  · obtain ⟨S, x, d, rfl, hx, k⟩ := h
    have hu := hu_of hr
    refine ⟨_, (pss_cons (ps_if (pt_val (pe_callB call_isi (by rfl) B.isinstance (by decide +kernel) (pa_cons (pv 0) (pa_cons (pe_bltn (v := .ty "tuple") (by rfl) B.tuple (by decide +kernel) rfl) pa_nil))))
  (pss_one (ps_ret (pe_callTy call_tuple_of (by rfl) B.tuple (by decide +kernel) (pa_cons (pe_lc (own := [("_law_part", 3)]) (g := gName 3) (by rfl) sc__law_copied.nd (pi_tup (pv 0)) (blkOk_by (own := [("_law_part", 3)]) (N := N__law_copied) (sc := defScope s__law_copied) (by decide +kernel)) (fun _ _ _ _ _ => (pg_name (i := 3) sc__law_copied.nd rfl (by first | exact Or.inl rfl | exact Or.inr rfl))) (fun _ _ _ _ _ => pts_nil) (fun _ _ _ _ _ => (pe_has G_copied hr (pa_cons (pv 3) pa_nil)))) pa_nil))))
  pss_nil)
  (pss_cons (ps_if (pt_val (pe_callB call_isi (by rfl) B.isinstance (by decide +kernel) (pa_cons (pv 0) (pa_cons (pe_bltn (v := .ty "list") (by rfl) B.list (by decide +kernel) rfl) pa_nil))))
  (pss_one (ps_ret (pe_lc (own := [("_law_part", 3)]) (g := gName 3) (by rfl) sc__law_copied.nd (pi_list (pv 0)) (blkOk_by (own := [("_law_part", 3)]) (N := N__law_copied) (sc := defScope s__law_copied) (by decide +kernel)) (fun _ _ _ _ _ => (pg_name (i := 3) sc__law_copied.nd rfl (by first | exact Or.inl rfl | exact Or.inr rfl))) (fun _ _ _ _ _ => pts_nil) (fun _ _ _ _ _ => (pe_has G_copied hr (pa_cons (pv 3) pa_nil))))))
  pss_nil)
  (pss_cons (ps_if (pt_val (pe_callB call_isi (by rfl) B.isinstance (by decide +kernel) (pa_cons (pv 0) (pa_cons (pe_bltn (v := .ty "dict") (by rfl) B.dict (by decide +kernel) rfl) pa_nil))))
  (pss_cons (ps_set (i := 1) sc__law_copied.nd rfl (by first | exact Or.inl rfl | exact Or.inr rfl) pe_dnewK)
  (pss_cons (ps_lock (ps_for PassesOwn.never rfl (pi_keys (pv 0)) (pg_name (i := 2) sc__law_copied.nd rfl (by first | exact Or.inl rfl | exact Or.inr rfl))
  (pss_one (ps_dput hu (pv 1) (pv 2) (pe_has G_copied hr (pa_cons (pe_dget hu (pv 0) (pv 2) (fun _ _ => rfl)) pa_nil)) rfl))))
  (pss_one (ps_ret (pv 1)))))
  pss_nil)
  (pss_one (ps_ret (pv 0)))))), ?_⟩
    cases d with
    | tuple ds =>
      cases hx with
      | @tup m p xs _ rx lx ax =>
        have hx1 : Dt S true H (m + 1) (.ref p) (.tuple ds) := .tup rx lx ax
        refine ⟨_, rfl, _, _, _, _, _, rfl, .ty _, hx1.ty, kit_ty (kb_tuple _), _, rfl, iteT ?_⟩
        refine ⟨_, rfl, p, rfl, ⟨_, .inl (.inl rx)⟩, fun D hD => ?_⟩
        refine lc_it (walk_tup (xs := xs)) (fun i H' => ∃ ys, H' D = some (.lst ys) ∧ DtAll (fun a => H a = none ∧ a ≠ D) true H' m ys (ds.take i) ∧ ys.length = i ∧ Kp [] H H') ⟨[], upd_same, .nil, rfl, Kp.new hD⟩ ?_ ?_ ?_
        · rintro i H2 hi ⟨ys, h2, d2, l2, k2⟩
          exact .inl (.inl (k2.tp _ _ rx))
        · rintro i u H2 H3 hi ⟨ys, h2, d2, l2, k2⟩ ⟨rfl, hu1⟩
          obtain ⟨d, hd, du⟩ := ax.getV hu1
          refine ⟨rfl, _, rfl, S, u, d, rfl, du.keep k2, fun y H4 k4 dy => ?_⟩
          have h4 := k4.at_ _ _ h2 (fun z => nomatch z)
          refine ⟨_, h4, by rw [l2]; exact Nat.lt_of_lt_of_le hi (Nat.le_trans lx.1 (by decide)), _, upd_same, ?_, by simp [l2], (k2.trans k4).late hD⟩
          rw [take_snoc hd]
          have d3 : DtAll (fun a => H a = none ∧ a ≠ D) true H4 m ys (ds.take i) := d2.keep k4
          have d4 : Dt (fun a => H a = none ∧ a ≠ D) true H4 m y d := dy.imp fun a ha => ⟨k2.same.free ha, fun z => by rw [z, h2] at ha; cases ha⟩
          exact (d3.append (.cons d4 .nil)).keepS (fun a o ha e => by rw [upd_ne ha.2]; exact e) fun _ h => h
        · rintro H2 ⟨ys, h2, d2, l2, k2⟩
          refine ⟨D, ys, rfl, .inl ⟨SqL.of h2, fun l hl => ?_⟩⟩
          have el : ds.length = xs.length := ax.len.symm
          rw [← el, List.take_length] at d2
          refine k _ _ (k2.snoc hl) (.tup upd_same ⟨by rw [l2]; exact lx.1, k2.same.free hl⟩ ?_)
          exact (d2.keep (Kp.new hl)).imp fun a h => h.1
    | list ds =>
      cases hx with
      | @lst m p xs _ rx lx ax =>
        have hx1 : Dt S true H (m + 1) (.ref p) (.list ds) := .lst rx lx ax
        refine ⟨_, rfl, _, _, _, _, _, rfl, .ty _, hx1.ty, kit_ty (kb_tuple _), _, rfl, iteF ?_⟩
        refine ⟨_, rfl, _, _, _, _, _, rfl, .ty _, hx1.ty, kit_ty (kb_list _), _, rfl, iteT ?_⟩
        refine ⟨_, rfl, p, rfl, ⟨_, .inl rx⟩, fun D hD => ?_⟩
        refine lc_it (walk_list (xs := xs)) (fun i H' => ∃ ys, H' D = some (.lst ys) ∧ DtAll (fun a => H a = none ∧ a ≠ D) true H' m ys (ds.take i) ∧ ys.length = i ∧ Kp [] H H') ⟨[], upd_same, .nil, rfl, Kp.new hD⟩ ?_ ?_ ?_
        · rintro i H2 hi ⟨ys, h2, d2, l2, k2⟩
          exact .inl (k2.rd (fun z => nomatch z) rx)
        · rintro i u H2 H3 hi ⟨ys, h2, d2, l2, k2⟩ ⟨rfl, hu1⟩
          obtain ⟨d, hd, du⟩ := ax.getV hu1
          refine ⟨rfl, _, rfl, S, u, d, rfl, du.keep k2, fun y H4 k4 dy => ?_⟩
          have h4 := k4.at_ _ _ h2 (fun z => nomatch z)
          refine ⟨_, h4, by rw [l2]; exact Nat.lt_of_lt_of_le hi (Nat.le_trans lx.1 (by decide)), _, upd_same, ?_, by simp [l2], (k2.trans k4).late hD⟩
          rw [take_snoc hd]
          have d3 : DtAll (fun a => H a = none ∧ a ≠ D) true H4 m ys (ds.take i) := d2.keep k4
          have d4 : Dt (fun a => H a = none ∧ a ≠ D) true H4 m y d := dy.imp fun a ha => ⟨k2.same.free ha, fun z => by rw [z, h2] at ha; cases ha⟩
          exact (d3.append (.cons d4 .nil)).keepS (fun a o ha e => by rw [upd_ne ha.2]; exact e) fun _ h => h
        · rintro H2 ⟨ys, h2, d2, l2, k2⟩
          have el : ds.length = xs.length := ax.len.symm
          rw [← el, List.take_length] at d2
          exact k _ _ k2 (.lst (.inl h2) ⟨by rw [l2]; exact lx.1, hD⟩ (d2.imp fun a h => h.1))
    | dict ds =>
      cases hx with
      | @dic m p kvs _ rx lx ax =>
        have hx1 : Dt S true H (m + 1) (.ref p) (.dict ds) := .dic rx lx ax
        have rx' : H p = some (.dK kvs) := rx
        refine ⟨_, rfl, _, _, _, _, _, rfl, .ty _, hx1.ty, kit_ty (kb_tuple _), _, rfl, iteF ?_⟩
        refine ⟨_, rfl, _, _, _, _, _, rfl, .ty _, hx1.ty, kit_ty (kb_list _), _, rfl, iteF ?_⟩
        refine ⟨_, rfl, _, _, _, _, _, rfl, .ty _, hx1.ty, kit_ty (kb_dict _), _, rfl, iteT ?_⟩
        intro D hD
        have pD : p ≠ D := ne_of_none rx' hD
        have rx2 : upd H D (.dK []) p = some (.dK kvs) := by rw [upd_ne pD]; exact rx'
        have k0 : Kp [] H (upd H D (.dK [])) := Kp.new hD
        refine ⟨p, _, rx2, trivial, fun od => ?_⟩
        have sl : Sm H (upd H p (.frz od (.dK kvs))) := Sm.lock rx' (fun _ _ z => by cases z) (fun _ z => by cases z)
        have kl : Kp [] (upd H p (.frz od (.dK kvs))) (upd (upd H D (.dK [])) p (.frz od (.dK kvs))) := by
          rw [upd_comm (Ne.symm pD)]
          exact Kp.new (by rw [upd_ne (Ne.symm pD)]; exact hD)
        refine ⟨_, rfl, p, od, rfl, .inl ⟨kvs, upd_same, ?_⟩⟩
        have fin : ∀ H2 : Hp, Kp [] (upd H p (.frz od (.dK kvs))) H2 → Kp [] H (upd H2 p (.dK kvs)) := fun H2 k2 => ⟨fun a o e _ => by
            by_cases z : a = p
            · rw [z, upd_same]; rw [z, rx'] at e; exact e
            · rw [upd_ne z]; exact k2.at_ a o (by rw [upd_ne z]; exact e) (fun z => nomatch z), fun a xs e => by
            by_cases z : a = p
            · rw [z, rx'] at e; cases e
            · rw [upd_ne z]; exact k2.tp a xs (by rw [upd_ne z]; exact e)⟩
        have hDl : upd H p (.frz od (.dK kvs)) D = none := by rw [upd_ne (Ne.symm pD)]; exact hD
        refine for_it (walk_keys (kvs := kvs)) (fun i σ H' => ∃ (fs : List (Key × V)) (v : Option V), σ = [some (.ref p), some (.ref D), v, none] ∧ H' D = some (.dK fs) ∧ DtKV (fun a => H a = none ∧ a ≠ D) true H' m fs (ds.take i) ∧ fs.map (·.1) = (kvs.map (·.1)).take i ∧ Kp [] (upd H p (.frz od (.dK kvs))) H')
          ⟨[], none, rfl, by rw [upd_ne (Ne.symm pD), upd_same], .nil, rfl, kl⟩ ?_ ?_ ?_
        · rintro i σ H2 hi ⟨fs, v, rfl, h2, d2, l2, k2⟩
          exact k2.at_ p _ upd_same (fun z => nomatch z)
        · rintro i xk σ H2 H3 hi ⟨fs, v, rfl, h2, d2, l2, k2⟩ ⟨rfl, kk, vv, hk, rfl⟩
          obtain ⟨e, hd, du, hs⟩ := ax.getV hk
          have hv := valV_at lx.1.2 hk
          have rd1 : Rd H3 p (.dK kvs) := .inr ⟨od, k2.at_ p _ upd_same (fun z => nomatch z)⟩
          refine ⟨_, rfl, _, rfl, p, vv, rfl, .inl ⟨kvs, kk, rd1, rfl, hv.symm⟩, ?_⟩
          refine ⟨S, vv, e, rfl, (du.lock rx' lx ax.weak hs).keep k2, fun y H4 k4 dy => ?_⟩
          have h4 := k4.at_ _ _ h2 (fun z => nomatch z)
          have hkk : (kvs.map (·.1))[i]? = some kk := by rw [List.getElem?_map, hk]; rfl
          have lf : fs.length ≤ 1000000 := by
            have := congrArg List.length l2
            rw [List.length_map, List.length_take, List.length_map] at this
            have := lx.1.1
            omega
          refine ⟨_, rfl, _, rfl, D, _, rfl, DPut.k h4 (Nat.lt_of_le_of_lt lf (by decide)), ?_⟩
          have hn : valV fs kk = none := valV_out (by rw [l2]; exact notin_take lx.1.2 hkk)
          rw [putK_new y hn]
          refine ⟨_, _, rfl, upd_same, ?_, ?_, (k2.trans k4).late hDl⟩
          · rw [take_snoc hd]
            have d3 : DtKV (fun a => H a = none ∧ a ≠ D) true H4 m fs (ds.take i) := d2.keep k4
            have d4 : Dt (fun a => H a = none ∧ a ≠ D) true H4 m y e := dy.imp fun a ha => ⟨by
              have h0 := k2.same.free ha
              by_cases z : a = p
              · rw [z, upd_same] at h0; cases h0
              · rw [upd_ne z] at h0; exact h0, fun z => by rw [z, h2] at ha; cases ha⟩
            exact (d3.append (.cons d4 .nil)).keepS (fun a o ha e => by rw [upd_ne ha.2]; exact e) fun _ h => h
          · rw [List.map_append, l2, take_snoc hkk]; rfl
        · rintro σ H2 ⟨fs, v, rfl, h2, d2, l2, k2⟩
          refine ⟨k2.at_ p _ upd_same (fun z => nomatch z), ?_⟩
          refine ⟨_, rfl, ?_⟩
          have el : ds.length = kvs.length := ax.len.symm
          rw [← el, List.take_length] at d2
          have e2 : fs.map (·.1) = kvs.map (·.1) := by rw [l2]; exact List.take_of_length_le (by rw [List.length_map]; exact Nat.le_refl _)
          refine k _ _ (fin _ k2) (.dic (show upd H2 p _ D = _ by rw [upd_ne (Ne.symm pD)]; exact h2) ⟨⟨?_, by rw [e2]; exact lx.1.2⟩, hD⟩ ?_)
          · have := congrArg List.length e2
            rw [List.length_map, List.length_map] at this
            rw [this]; exact lx.1.1
          · exact d2.keepS (fun a o ha e => by rw [upd_ne (fun z => by rw [z, rx'] at ha; cases ha.1)]; exact e) fun a h => h.1
    | none =>
      cases hx
      refine ⟨_, rfl, _, _, _, _, _, rfl, .ty _, .base .non, kit_ty (kb_tuple .none), _, rfl, iteF ?_⟩
      refine ⟨_, rfl, _, _, _, _, _, rfl, .ty _, .base .non, kit_ty (kb_list .none), _, rfl, iteF ?_⟩
      refine ⟨_, rfl, _, _, _, _, _, rfl, .ty _, .base .non, kit_ty (kb_dict .none), _, rfl, iteF ?_⟩
      exact ⟨_, rfl, k _ _ (Kp.refl _) .non⟩
    | bool b =>
      cases hx
      refine ⟨_, rfl, _, _, _, _, _, rfl, .ty _, .base (.bl _), kit_ty (kb_tuple (.bool b)), _, rfl, iteF ?_⟩
      refine ⟨_, rfl, _, _, _, _, _, rfl, .ty _, .base (.bl _), kit_ty (kb_list (.bool b)), _, rfl, iteF ?_⟩
      refine ⟨_, rfl, _, _, _, _, _, rfl, .ty _, .base (.bl _), kit_ty (kb_dict (.bool b)), _, rfl, iteF ?_⟩
      exact ⟨_, rfl, k _ _ (Kp.refl _) (.bl b)⟩
    | int b =>
      cases hx
      refine ⟨_, rfl, _, _, _, _, _, rfl, .ty _, .base (.int _), kit_ty (kb_tuple (.int b)), _, rfl, iteF ?_⟩
      refine ⟨_, rfl, _, _, _, _, _, rfl, .ty _, .base (.int _), kit_ty (kb_list (.int b)), _, rfl, iteF ?_⟩
      refine ⟨_, rfl, _, _, _, _, _, rfl, .ty _, .base (.int _), kit_ty (kb_dict (.int b)), _, rfl, iteF ?_⟩
      exact ⟨_, rfl, k _ _ (Kp.refl _) (.int b)⟩
    | str b =>
      cases hx with
      | str _ hz =>
      refine ⟨_, rfl, _, _, _, _, _, rfl, .ty _, .base (.str _), kit_ty (kb_tuple (.str b)), _, rfl, iteF ?_⟩
      refine ⟨_, rfl, _, _, _, _, _, rfl, .ty _, .base (.str _), kit_ty (kb_list (.str b)), _, rfl, iteF ?_⟩
      refine ⟨_, rfl, _, _, _, _, _, rfl, .ty _, .base (.str _), kit_ty (kb_dict (.str b)), _, rfl, iteF ?_⟩
      exact ⟨_, rfl, k _ _ (Kp.refl _) (.str b hz)⟩
theorem ok_copied (B : Bi mg) (D : Dfn K mg "_law_copied" s__law_copied ["_law_thing"]) : ∀ n : Nat, Has P w K mg base CX0 "_law_copied" ["_law_thing"] (n + 1) (spCopied n)
  | 0 => step_copied B D 0 D.none
  | n + 1 => step_copied B D (n + 1) (ok_copied B D n)
end
end Fm

namespace Fm
open PySem PySem.Spec PyProof.Rows L2
/-! ### how big a thing is -/
mutual
def wt : PyData → Nat
  | .list ds => 1 + wts ds
  | .tuple ds => 1 + wts ds
  | .str w => 1 + w.length / 16
  | .none => 1
  | .bool _ => 1
  | .int _ => 1
  | .dict _ => 1
def wts : List PyData → Nat
  | [] => 0
  | d :: ds => wt d + wts ds
end
theorem wt_pos (d : PyData) : 1 ≤ wt d := by cases d <;> simp [wt]
theorem wts_app : ∀ a b : List PyData, wts (a ++ b) = wts a + wts b
  | [], b => by simp [wts]
  | x :: a, b => by rw [List.cons_append, wts, wts_app a b, wts]; omega
theorem wts_take (n : Nat) (a : List PyData) : wts (a.take n) ≤ wts a := by
  have := wts_app (a.take n) (a.drop n)
  rw [List.take_append_drop] at this; omega
theorem wts_drop (n : Nat) (a : List PyData) : wts (a.drop n) ≤ wts a := by
  have := wts_app (a.take n) (a.drop n)
  rw [List.take_append_drop] at this; omega
theorem wts_rep (a : List PyData) : ∀ k : Nat, wts (List.replicate k a).flatten = k * wts a
  | 0 => by simp [wts]
  | k + 1 => by rw [List.replicate_succ, List.flatten_cons, wts_app, wts_rep a k, Nat.succ_mul]; omega
theorem wts_len : ∀ a : List PyData, a.length ≤ wts a
  | [] => Nat.le_refl _
  | x :: a => by rw [List.length_cons, wts]; have := wts_len a; have := wt_pos x; omega
theorem wts_at : ∀ {a : List PyData} {k : Nat} {e : PyData}, a[k]? = some e → wt e ≤ wts a
  | x :: a, 0, e, h => by cases h; rw [wts]; omega
  | x :: a, k + 1, e, h => by have := wts_at (a := a) (k := k) h; rw [wts]; omega
end Fm

namespace Fm
open PySem PySem.Spec PyProof.Rows L2
def spOddW : Sp := fun vs H Q _ => ∃ (b c : Addr), vs = [.ref b] ∧ Bag H b c ∧ ∀ v d H', Bag H' b c → Kp [b] H H' → Dt (fun a => H a = none) true H' 3 v d → wt d ≤ 10 → Q v H'
/-- some data, new -/
def spOdd : Sp := fun vs H Q _ => ∃ (b c : Addr), vs = [.ref b] ∧ Bag H b c ∧ ∀ v d H', Bag H' b c → Kp [b] H H' → Dt (fun a => H a = none) true H' 3 v d → Q v H'
theorem len_le {w : Str} (n : Nat) (h : w.length = n) (hn : n ≤ 1000000) : w.length ≤ 1000000 := by rw [h]; exact hn
theorem wq {l : List PyData} (h : (l.all fun e => decide (wt e ≤ 10)) = true) : ∀ e ∈ l, wt e ≤ 10 := fun e he => of_decide_eq_true (List.all_eq_true.mp h e he)
theorem wq2 (z : Int) : ∀ e ∈ [PyData.int (10 ^ 9 + 1), .int (0 - 10 ^ 9 - 1), .int (10 ^ 40 + z), .int z, .tuple [.int z, .tuple []], .list [.list [.int z]], .tuple [.str "scan"], .str "none"], wt e ≤ 10 := by
  have h1 : wt (.str "scan") ≤ 2 := by decide +kernel
  have h2 : wt (.str "none") ≤ 2 := by decide +kernel
  intro e he
  simp only [List.mem_cons, List.not_mem_nil, or_false] at he
  rcases he with rfl | rfl | rfl | rfl | rfl | rfl | rfl | rfl <;> simp only [wt, wts] at * <;> omega
section
variable {P : Program} {w : World} {K : PySem.W.Frag} {mg : Str → Option Value} {base : Heap}
theorem ok_oddW (B : Bi mg) (D : Dfn K mg "_law_odd" s__law_odd ["_law_bag_here"]) (G_pick : Has P w K mg base CX0 "_law_pick" ["_law_bag_here", "_law_many"] 1 spPick) :
    Has P w K mg base CX0 "_law_odd" ["_law_bag_here"] 2 spOddW := by
  refine D.has sc__law_odd (fun vs H Q E h => ?_) (fun f cdv A outer s H vs Q E hr h => ?_)
  · obtain ⟨b, c, rfl, _⟩ := h; rfl
  · obtain ⟨b, c, rfl, BG, k⟩ := h
    refine ⟨_, (pss_cons (ps_set (i := 1) sc__law_odd.nd rfl (by first | exact Or.inl rfl | exact Or.inr rfl) (pe_op op_sub (pe_has G_pick hr (pa_cons (pv 0) (pa_cons pe_int pa_nil))) pe_int))
  (C8.pss_cut (ps_set (i := 2) sc__law_odd.nd rfl (by first | exact Or.inl rfl | exact Or.inr rfl) (pe_lst (pa_cons pe_non (pa_cons pe_bl (pa_cons pe_bl (pa_cons pe_str (pa_cons pe_str (pa_cons pe_str (pa_cons pe_str (pa_cons pe_str (pa_cons pe_str (pa_cons (pe_tup pa_nil) (pa_cons (pe_lst pa_nil) (pa_cons pe_dnewK (pa_cons (pe_disp (pps_cons pe_str (pe_lst (pa_cons pe_int pa_nil)) pps_nil) (by rfl) (by rfl) (fun z => by cases z) (by decide)) (pa_cons (pe_tup (pa_cons pe_str (pa_cons pe_str (pa_cons pe_str pa_nil)))) (pa_cons (pe_lst (pa_cons pe_int (pa_cons pe_int pa_nil))) pa_nil)))))))))))))))))
  (C8.pss_cut (ps_expr (pe_bm PySem.F.plainAttrs_list PySem.F.slot_list_extend PySem.F.type_list_extend mt_extend (pv 2) (pa_cons (pe_lst (pa_cons (pe_op op_add (pe_op op_pow pe_int pe_int) pe_int) (pa_cons (pe_op op_sub (pe_op op_sub pe_int (pe_op op_pow pe_int pe_int)) pe_int) (pa_cons (pe_op op_add (pe_op op_pow pe_int pe_int) (pv 1)) (pa_cons (pv 1) (pa_cons (pe_tup (pa_cons (pv 1) (pa_cons (pe_tup pa_nil) pa_nil))) (pa_cons (pe_lst (pa_cons (pe_lst (pa_cons (pv 1) pa_nil)) pa_nil)) (pa_cons (pe_tup (pa_cons pe_str pa_nil)) (pa_cons pe_str pa_nil))))))))) pa_nil)))
  (pss_one (ps_ret (pe_ix ix_list (pv 2) (pe_has G_pick hr (pa_cons (pv 0) (pa_cons (pe_callB call_len (by rfl) B.len PySem.boot_len (pa_cons (pv 2) pa_nil)) pa_nil))) (fun _ _ => rfl))))))), ?_⟩
    refine ⟨_, rfl, b, c, 9, rfl, BG, by decide, by decide, fun r H1 r0 r1 B1 k1 => ?_⟩
    refine ⟨_, _, rfl, rfl, ?_⟩
    obtain ⟨z, hz⟩ : ∃ z, z = r - 4 := ⟨_, rfl⟩
    -- the first row of things
    refine ⟨fun σ H' => ∃ (l : Addr) (xs : List V) (ds : List PyData), σ = [some (.ref b), some (.int z), some (.ref l)] ∧ H' l = some (.lst xs) ∧ xs.length = 15 ∧ H1 l = none ∧ DtAll (fun a => H1 a = none ∧ a ≠ l) true H' 2 xs ds ∧ Kp [] H1 H' ∧ ∀ e ∈ ds, wt e ≤ 10, ?_, ?_⟩
    · refine ⟨by show 0 ≤ sizeLine; decide, fun p1 n1 => ⟨by show 0 ≤ sizeLine; decide, fun p2 n2 p3 n3 p4 n4 => ⟨by show 1 ≤ sizeLine; decide, fun p5 n5 => ?_⟩⟩⟩
      have a1 : Dt (fun a => H1 a = none) true _ 2 (.ref p1) (.tuple []) := .tup (upd_same (H := H1) (o := .tup [])) ⟨Nat.zero_le _, n1⟩ .nil
      have k2 : Kp [] H1 _ := Kp.new (o := .tup []) n1
      have a2 : Dt (fun a => H1 a = none) true _ 2 (.ref p2) (.list []) := .lst (.inl (upd_same (H := upd H1 p1 (.tup [])) (o := .lst []))) ⟨Nat.zero_le _, k2.same.free n2⟩ .nil
      have a1 := a1.keep (Kp.new (o := .lst []) n2)
      have k3 := k2.snoc (o := .lst []) n2
      have a3 : Dt (fun a => H1 a = none) true _ 2 (.ref p3) (.dict []) := .dic (show upd _ p3 _ p3 = _ from upd_same (H := upd (upd H1 p1 (.tup [])) p2 (.lst [])) (o := .dK [])) ⟨⟨Nat.zero_le _, List.nodup_nil⟩, k3.same.free n3⟩ .nil
      have a1 := a1.keep (Kp.new (o := .dK []) n3)
      have a2 := a2.keep (Kp.new (o := .dK []) n3)
      have k4 := k3.snoc (o := .dK []) n3
      generalize hc : upd (upd (upd H1 p1 (.tup [])) p2 (.lst [])) p3 (.dK []) = Hc at a1 a2 a3 k4 n4 n5
      have kd : Kp [] Hc (upd (upd (upd Hc p4 (.dK [])) p5 (.lst [.int 1])) p4 (.dK [(.inr "a", .ref p5)])) := ((Kp.new n4).snoc n5).late n4
      have n54 : p5 ≠ p4 := fun z => by rw [z, upd_same] at n5; cases n5
      have m4 : H1 p4 = none := k4.same.free n4
      have m5 : H1 p5 = none := by rw [upd_ne n54] at n5; exact k4.same.free n5
      have a5 : Dt (fun a => H1 a = none) true (upd (upd (upd Hc p4 (.dK [])) p5 (.lst [.int 1])) p4 (.dK [(.inr "a", .ref p5)])) 1 (.ref p5) (.list [.int 1]) := .lst (.inl (by rw [upd_ne n54, upd_same])) ⟨by simp, m5⟩ (.cons (.int 1) .nil)
      have a4 : Dt (fun a => H1 a = none) true (upd (upd (upd Hc p4 (.dK [])) p5 (.lst [.int 1])) p4 (.dK [(.inr "a", .ref p5)])) 2 (.ref p4) (.dict [(keyD (.inr "a"), .list [.int 1])]) := .dic (show upd _ p4 _ p4 = _ from upd_same) ⟨⟨by simp, by simp⟩, m4⟩ (.cons a5 .nil)
      have a1 := a1.keep kd
      have a2 := a2.keep kd
      have a3 := a3.keep kd
      have k5 := k4.trans kd
      subst hc
      refine ⟨by rw [upd_ne (Ne.symm n54), upd_same], [(.inr "a", .ref p5)], rfl, by simp, ?_⟩
      refine ⟨by show 3 ≤ sizeLine; decide, fun p6 n6 => ?_⟩
      change (upd (upd (upd (upd (upd (upd H1 p1 (.tup [])) p2 (.lst [])) p3 (.dK [])) p4 (.dK [])) p5 (.lst [.int 1])) p4 (.dK [(.inr "a", .ref p5)])) p6 = none at n6
      generalize hd : (upd (upd (upd (upd (upd (upd H1 p1 (.tup [])) p2 (.lst [])) p3 (.dK [])) p4 (.dK [])) p5 (.lst [.int 1])) p4 (.dK [(.inr "a", .ref p5)])) = Hd at a1 a2 a3 a4 k5 n6
      have a6 : Dt (fun a => H1 a = none) true (upd Hd p6 (.tup [.str "of", .str "a", .str "b"])) 2 (.ref p6) (.tuple [.str "of", .str "a", .str "b"]) := .tup upd_same ⟨by simp, k5.same.free n6⟩ (.cons (.str _ (by decide +kernel)) (.cons (.str _ (by decide +kernel)) (.cons (.str _ (by decide +kernel)) .nil)))
      have ky : Kp [] Hd (upd Hd p6 (.tup [.str "of", .str "a", .str "b"])) := Kp.new n6
      subst hd
      refine ⟨by show 2 ≤ sizeLine; decide, fun p7 n7 => ?_⟩
      change (upd (upd (upd (upd (upd (upd (upd H1 p1 (.tup [])) p2 (.lst [])) p3 (.dK [])) p4 (.dK [])) p5 (.lst [.int 1])) p4 (.dK [(.inr "a", .ref p5)])) p6 (.tup [.str "of", .str "a", .str "b"])) p7 = none at n7
      have k6 := k5.trans ky
      have a1 := a1.keep ky
      have a2 := a2.keep ky
      have a3 := a3.keep ky
      have a4 := a4.keep ky
      generalize hd : (upd (upd (upd (upd (upd (upd (upd H1 p1 (.tup [])) p2 (.lst [])) p3 (.dK [])) p4 (.dK [])) p5 (.lst [.int 1])) p4 (.dK [(.inr "a", .ref p5)])) p6 (.tup [.str "of", .str "a", .str "b"])) = He at a1 a2 a3 a4 a6 k6 n7
      have a7 : Dt (fun a => H1 a = none) true (upd He p7 (.lst [.int 1, .int 2])) 2 (.ref p7) (.list [.int 1, .int 2]) := .lst (.inl upd_same) ⟨by simp, k6.same.free n7⟩ (.cons (.int _) (.cons (.int _) .nil))
      have kz : Kp [] He (upd He p7 (.lst [.int 1, .int 2])) := Kp.new n7
      have k7 := k6.trans kz
      have a1 := a1.keep kz
      have a2 := a2.keep kz
      have a3 := a3.keep kz
      have a4 := a4.keep kz
      have a6 := a6.keep kz
      subst hd
      refine ⟨by show 15 ≤ sizeLine; decide, fun l nl => ?_⟩
      have all : DtAll (fun a => H1 a = none) true _ 2 [.non, .bl true, .bl false, .str "", .str "Ab", .str "a b", .str "abcdefghi", .str "a_b", .str "z1", .ref p1, .ref p2, .ref p3, .ref p4, .ref p6, .ref p7] _ :=
        .cons .non (.cons (.bl _) (.cons (.bl _) (.cons (.str _ (by decide +kernel)) (.cons (.str _ (by decide +kernel)) (.cons (.str _ (by decide +kernel)) (.cons (.str _ (by decide +kernel)) (.cons (.str _ (by decide +kernel)) (.cons (.str _ (by decide +kernel)) (.cons a1 (.cons a2 (.cons a3 (.cons a4 (.cons a6 (.cons a7 .nil))))))))))))))
      have all' := all.inH.keepS (S' := fun a => H1 a = none ∧ a ≠ l) (H' := upd _ l (.lst [.non, .bl true, .bl false, .str "", .str "Ab", .str "a b", .str "abcdefghi", .str "a_b", .str "z1", .ref p1, .ref p2, .ref p3, .ref p4, .ref p6, .ref p7])) (fun a o _ e => (upd_ne (ne_of_none e nl)).trans e) fun a h => ⟨h.1, fun z => h.2 (by rw [z]; exact nl)⟩
      have wq1 : ∀ e ∈ [PyData.none, .bool true, .bool false, .str "", .str "Ab", .str "a b", .str "abcdefghi", .str "a_b", .str "z1", .tuple [], .list [], .dict [], .dict [(keyD (.inr "a"), .list [.int 1])], .tuple [.str "of", .str "a", .str "b"], .list [.int 1, .int 2]], wt e ≤ 10 := wq (by decide +kernel)
      exact ⟨l, _, _, by rw [hz]; rfl, upd_same, rfl, k7.same.free nl, all', k7.snoc nl, wq1⟩
    · rintro σ' H2 ⟨l, xs, ds, rfl, h2, l2, nl, d2, k2, w2⟩
      refine ⟨fun σ H' => ∃ (l : Addr) (xs : List V) (ds : List PyData), σ = [some (.ref b), some (.int z), some (.ref l)] ∧ H' l = some (.lst xs) ∧ xs.length = 23 ∧ H1 l = none ∧ DtAll (fun a => H1 a = none ∧ a ≠ l) true H' 3 xs ds ∧ Kp [] H1 H' ∧ ∀ e ∈ ds, wt e ≤ 10, ?_, ?_⟩
      · refine ⟨_, rfl, .inl ⟨rfl, _, SqL.of h2⟩, ?_⟩
        refine ⟨_, _, rfl, rfl, ⟨by decide, by decide, by decide⟩, _, _, rfl, rfl, ?_⟩
        refine ⟨_, _, rfl, rfl, ⟨by decide, by decide, by decide⟩, _, _, rfl, rfl, _, _, rfl, rfl, ?_⟩
        refine ⟨_, _, rfl, rfl, ⟨by decide, by decide, by decide⟩, _, rfl, _, _, rfl, rfl, _, rfl, ?_⟩
        -- (number, ())
        refine ⟨_, rfl, by show 0 ≤ sizeLine; decide, fun p1 n1 => ⟨by show 2 ≤ sizeLine; decide, fun p2 n2 => ?_⟩⟩
        have c1 : Dt (fun a => H1 a = none ∧ a ≠ l) true (upd H2 p1 (.tup [])) 1 (.ref p1) (.tuple []) := .tup upd_same ⟨Nat.zero_le _, k2.same.free n1, Ne.symm (ne_of_none h2 n1)⟩ .nil
        have k3 := k2.snoc (o := .tup []) n1
        have c2 : Dt (fun a => H1 a = none ∧ a ≠ l) true (upd (upd H2 p1 (.tup [])) p2 (.tup [.int z, .ref p1])) 2 (.ref p2) (.tuple [.int z, .tuple []]) := .tup upd_same ⟨by simp, k3.same.free n2, Ne.symm (ne_of_none ((Kp.new (o := .tup []) n1).at_ (ms := []) l _ h2 (fun z => nomatch z)) n2)⟩ (.cons (.int _) (.cons (c1.keep (Kp.new n2)) .nil))
        have k4 := k3.snoc (o := .tup [.int z, .ref p1]) n2
        have kk : Kp [] H2 (upd (upd H2 p1 (.tup [])) p2 (.tup [.int z, .ref p1])) := (Kp.new n1).snoc n2
        -- [[number]]
        refine ⟨_, rfl, by show 1 ≤ sizeLine; decide, fun p3 n3 => ⟨by show 1 ≤ sizeLine; decide, fun p4 n4 => ?_⟩⟩
        generalize hc : upd (upd H2 p1 (.tup [])) p2 (.tup [.int z, .ref p1]) = Hc at c2 k4 kk n3 n4
        have c3 : Dt (fun a => H1 a = none ∧ a ≠ l) true (upd Hc p3 (.lst [.int z])) 1 (.ref p3) (.list [.int z]) := .lst (.inl upd_same) ⟨by simp, k4.same.free n3, Ne.symm (ne_of_none (kk.at_ (ms := []) l _ h2 (fun z => nomatch z)) n3)⟩ (.cons (.int _) .nil)
        have k5 := k4.snoc (o := .lst [.int z]) n3
        have c4 : Dt (fun a => H1 a = none ∧ a ≠ l) true (upd (upd Hc p3 (.lst [.int z])) p4 (.lst [.ref p3])) 2 (.ref p4) (.list [.list [.int z]]) := .lst (.inl upd_same) ⟨by simp, k5.same.free n4, Ne.symm (ne_of_none ((kk.snoc (o := .lst [.int z]) n3).at_ (ms := []) l _ h2 (fun z => nomatch z)) n4)⟩ (.cons (c3.keep (Kp.new n4)) .nil)
        have k6 := k5.snoc (o := .lst [.ref p3]) n4
        have kk2 : Kp [] Hc (upd (upd Hc p3 (.lst [.int z])) p4 (.lst [.ref p3])) := (Kp.new n3).snoc n4
        have c2 := c2.keep kk2
        have kk := kk.trans kk2
        subst hc
        refine ⟨by show 1 ≤ sizeLine; decide, fun p5 n5 => ?_⟩
        generalize hc : upd (upd (upd (upd H2 p1 (.tup [])) p2 (.tup [.int z, .ref p1])) p3 (.lst [.int z])) p4 (.lst [.ref p3]) = Hd at c2 c4 k6 kk n5
        have c5 : Dt (fun a => H1 a = none ∧ a ≠ l) true (upd Hd p5 (.tup [.str "scan"])) 2 (.ref p5) (.tuple [.str "scan"]) := .tup upd_same ⟨by simp, k6.same.free n5, Ne.symm (ne_of_none (kk.at_ (ms := []) l _ h2 (fun z => nomatch z)) n5)⟩ (.cons (.str _ (by decide +kernel)) .nil)
        have k7 := k6.snoc (o := .tup [.str "scan"]) n5
        have kk3 : Kp [] Hd (upd Hd p5 (.tup [.str "scan"])) := Kp.new n5
        have c2 := c2.keep kk3
        have c4 := c4.keep kk3
        have kk := kk.trans kk3
        subst hc
        refine ⟨by show 8 ≤ sizeLine; decide, fun p6 n6 => ?_⟩
        generalize hc : upd (upd (upd (upd (upd H2 p1 (.tup [])) p2 (.tup [.int z, .ref p1])) p3 (.lst [.int z])) p4 (.lst [.ref p3])) p5 (.tup [.str "scan"]) = He at c2 c4 c5 k7 kk n6 ⊢
        have hl : He l = some (.lst xs) := kk.at_ _ _ h2 (fun z => nomatch z)
        have l6 : l ≠ p6 := ne_of_none hl n6
        refine ⟨l, p6, _, _, rfl, rfl, by rw [upd_ne l6]; exact hl, upd_same, by rw [l2]; show 15 + 8 ≤ sizeLine; decide, ?_⟩
        have all : DtAll (fun a => H1 a = none ∧ a ≠ l) true He 2 [.int (10 ^ 9 + 1), .int (0 - 10 ^ 9 - 1), .int (10 ^ 40 + z), .int z, .ref p2, .ref p4, .ref p5, .str "none"] _ :=
          .cons (.int _) (.cons (.int _) (.cons (.int _) (.cons (.int _) (.cons c2 (.cons c4 (.cons c5 (.cons (.str _ (by decide +kernel)) .nil)))))))
        have d3 : DtAll (fun a => H1 a = none ∧ a ≠ l) true He 2 xs ds := d2.keep kk
        have both := ((d3.append all).mono (Nat.le_succ 2)).inH.keepS (S' := fun a => H1 a = none ∧ a ≠ l) (H' := upd (upd He p6 (.lst [.int (10 ^ 9 + 1), .int (0 - 10 ^ 9 - 1), .int (10 ^ 40 + z), .int z, .ref p2, .ref p4, .ref p5, .str "none"])) l (.lst (xs ++ [.int (10 ^ 9 + 1), .int (0 - 10 ^ 9 - 1), .int (10 ^ 40 + z), .int z, .ref p2, .ref p4, .ref p5, .str "none"]))) (fun a o h e => by
          rw [upd_ne h.1.2, upd_ne (ne_of_none e n6)]; exact e) (fun a h => h.1)
        exact ⟨l, _, _, rfl, upd_same, by rw [List.length_append, l2]; rfl, nl, both, (k7.snoc n6).late nl, fun e he => (List.mem_append.mp he).elim (w2 e) (wq2 z e)⟩
      · rintro σ' H3 ⟨l, xs, ds, rfl, h3, l3, nl, d3, k3, w3⟩
        have B3 := B1.keep0 k3
        refine ⟨_, rfl, _, rfl, _, rfl, _, _, rfl, .inl ⟨_, SqL.of h3, rfl⟩, ?_⟩
        refine ⟨b, c, _, rfl, B3, by rw [l3]; decide, by rw [l3]; decide, fun q H4 q0 q1 B4 k4 => ?_⟩
        have lb : l ≠ b := fun z => by
          obtain ⟨o, ho⟩ := B1.someB
          rw [← z, nl] at ho; cases ho
        have h4 : H4 l = some (.lst xs) := k4.at_ _ _ h3 (by simpa using lb)
        rw [l3] at q1
        have hq : q.toNat < xs.length := by omega
        obtain ⟨u, hu⟩ : ∃ u, xs[q.toNat]? = some u := ⟨xs[q.toNat], List.getElem?_eq_getElem hq⟩
        obtain ⟨d, hd, du⟩ := d3.getV hu
        refine ⟨l, _, q, u, rfl, rfl, SqL.of h4, atI_of q0 hu, ?_⟩
        have kb : Kp [b] H H4 := (k1.trans k3.zero).trans k4
        refine k u d H4 B4 kb (du.keepS (fun a o h e => k4.at_ a o e (by
          intro z
          have e' : a = b := by simpa using z
          obtain ⟨o', ho⟩ := B1.someB
          rw [← e', h.1] at ho; cases ho)) fun a h => ?_) (w3 d (List.mem_of_getElem? hd))
        exact k1.freeB B1 h.1
theorem ok_odd (B : Bi mg) (D : Dfn K mg "_law_odd" s__law_odd ["_law_bag_here"]) (G_pick : Has P w K mg base CX0 "_law_pick" ["_law_bag_here", "_law_many"] 1 spPick) : Has P w K mg base CX0 "_law_odd" ["_law_bag_here"] 2 spOdd :=
  (ok_oddW B D G_pick).imp fun vs H Q E h => let ⟨b, c, e, BG, k⟩ := h; ⟨b, c, e, BG, fun v d H' h1 h2 h3 _ => k v d H' h1 h2 h3⟩
end
end Fm

namespace PySem
open PySem.Calls PyProof.Rows
/-- enumerate(v) without a start, v told by how its iterator begins -/
theorem fm_enum_new {v : Value} {o : Obj} {Hv : Heap → Prop} (bg : Begins v o Hv) :
    Meets (Builtin.«enumerate.__new__» ⟨[.type "enumerate", v], []⟩) (fun _ R s => Hv s.heap ∧ R (.ok (.ret (.ref (s.heap.push o).objs.size)))
      { s with heap := (s.heap.push o).push { cls := .type "enumerate", data := .fields #[.none, .bool false, .ref s.heap.objs.size, rawInt 0, .none, .none] } }) := by
  refine .of_wp fun prog w A R s hh => ?_
  rcases s with ⟨hp, gs, dr, tk, os⟩
  rcases hh with ⟨hv, hR⟩
  have sE := sub_enumerate
  have stp : ∀ {A1 : Around} {E1 : Value → Shared → Prop} {Q1 : Value → Shared → Prop}, Q1 (.ref hp.objs.size) ⟨hp.push o, gs, dr, tk, os⟩ → wpAny (model prog w) A1 (pyIter v) Q1 E1 ⟨hp, gs, dr, tk, os⟩ := fun q1 => bg.iter prog w _ _ ⟨hp, gs, dr, tk, os⟩ _ hv q1
  wp_walk using stp
  refine wpAny_stack_any fun _ => wpAny_pure ?_
  split
  · rename_i cc _ _ _ _ _
    cases (cc == Value.type "enumerate") <;> (wp_walk using stp; exact ⟨_, rfl, hR⟩)
  · wp_walk using stp
    exact ⟨_, rfl, hR⟩
theorem fm_call_enum {prog : Program} {w : World} {A : Around} {E : Value → Shared → Prop} {s : Shared} {v : Value} {o : Obj} {Hv : Heap → Prop} {Q : Value → Shared → Prop} (bg : Begins v o Hv) (h1 : Hv s.heap)
    (k : ∀ h', IsEnum h' (s.heap.objs.size + 1) s.heap.objs.size 0 .none → h'.get? s.heap.objs.size = some o → (∀ b u, s.heap.get? b = some u → h'.get? b = some u) → Q (.ref (s.heap.objs.size + 1)) { s with heap := h' }) :
    wpAny (model prog w) A (call (.type "enumerate") [v]) Q E s := by
  refine callType_new F.called_enumerate (by decide) (F.typeCall_enumerate_1 _) (F.newCall_enumerate_1 _) (fun obj => F.args_object_init_2 obj _) F.entry_enumerate_new (fm_enum_new bg) ⟨h1, ?_⟩
  have sz : (s.heap.push o).objs.size = s.heap.objs.size + 1 := Heap.size_push ..
  show _ ∧ _
  rw [sz]
  have ie : IsEnum ((s.heap.push o).push { cls := .type "enumerate", data := .fields #[.none, .bool false, .ref s.heap.objs.size, rawInt 0, .none, .none] }) (s.heap.objs.size + 1) s.heap.objs.size 0 .none := by
    have g := Heap.get?_push_size (s.heap.push o) (o := { cls := .type "enumerate", data := .fields #[.none, .bool false, .ref s.heap.objs.size, rawInt 0, .none, .none] }) rfl
    rw [sz] at g
    exact g
  exact ⟨⟨_, ie, rfl⟩, k _ ie (Heap.get?_push_of_some _ (Heap.get?_push_size _ bg.free)) fun b u e => Heap.get?_push_of_some _ (Heap.get?_push_of_some _ e)⟩
end PySem
namespace Fm
open PySem PySem.Spec PyProof.Rows L2
/-- enumerate(t), t a tuple: each item in a new pair -/
def ItE (K : PySem.W.Frag) (a : Addr) : It :=
  ⟨fun i H => ∃ (xs : List V) (x : V), SqT K H a xs ∧ xs[i]? = some x, fun i H v H' => ∃ T x, v = .ref T ∧ H T = none ∧ H' = upd H T (.tup [.int (i : Nat), x]) ∧ ∀ xs, SqT K H a xs → xs[i]? = some x, fun i H => ∃ xs : List V, SqT K H a xs ∧ xs.length = i⟩
theorem turn_enumT {P : Program} {w : World} {K : PySem.W.Frag} {elts : List Expr} {kk : Nat} {tpos : Pos} (a e it : Addr) (nea : a ≠ it) (nee : e ≠ it) (nae : e ≠ a) :
    Turn P w K (.Tuple elts kk tpos) (ItE K a) [e, it] e (fun i h => (∃ old, IsEnum h e it ((i : Nat) : Int) old) ∧ h.IsTupleIter it a i) where
  mem := by simp
  obj := fun i h st b hb => by
    obtain ⟨⟨old, he⟩, ⟨o, ho, hc, hd⟩⟩ := st
    rcases (show b = e ∨ b = it by simpa using hb) with rfl | rfl
    · exact ⟨_, he, fun v q => nomatch q⟩
    · exact ⟨o, ho, fun v q => by rw [hd] at q; cases q⟩
  keep := fun i h h' st k => let ⟨⟨old, he⟩, hi⟩ := st; ⟨⟨old, k e (by simp) _ he⟩, hi.at fun o q => k it (by simp) o q⟩
  item := by
    intro X hP hw hK hc i pins s σ H E I hf st hg
    subst hP hw hK
    obtain ⟨⟨old, he⟩, hit⟩ := st
    obtain ⟨xs, x, hq, hx⟩ := hg
    obtain ⟨its, rv, p, hz⟩ := I.tuple hq
    obtain ⟨u, hu, ru⟩ := rv.get hx
    have hel : e < s.heap.objs.size := Heap.lt_size he
    have hil : it < s.heap.objs.size := by obtain ⟨_, q, _⟩ := hit; exact Heap.lt_size q
    have hlt : i < its.toArray.size := by
      have := (List.getElem?_eq_some_iff.mp hu).1
      simpa using this
    have Dr := Draws.tuple (prog := X.prog) (w := X.w) (A := X.A.in1) (I.ok.hd hc) it a nea its.toArray
    refine wpAny_pyNext_enum_itemC Dr he ⟨hit, p⟩ hlt nee (by simp [nee, nae]) fun y h1 tk hy ho st1 hT hsz hk => ?_
    have ey : y = u := by
      have h2 : its[i]? = some y := by simpa using hy
      rw [hu] at h2
      exact (Option.some.inj h2).symm
    subst ey
    refine ⟨_, rfl, wpAny_letOwnedTupleGo_enum (s := { s with heap := h1, toks := tk + 1 }) ho fun h2 he2 sb => ?_⟩
    have hT2 : h2.get? s.heap.objs.size = some { cls := .type "tuple", data := .seq #[.int i tk, y] } := (sb.2 _ (Nat.ne_of_gt hel)).trans hT
    have nw : ObjOk X.prog X.w (upd H s.heap.objs.size (.tup [.int (i : Nat), x])) h2 s.heap.objs.size (.tup [.int (i : Nat), x]) :=
      ⟨by show 2 ≤ sizeLine; decide, [.int i tk, y], .cons ⟨_, rfl⟩ (.cons ru .nil), ⟨_, hT2, rfl, _, rfl⟩⟩
    have I1 : Inv X pins σ (upd H s.heap.objs.size (.tup [.int (i : Nat), x])) { s with heap := h2, toks := tk + 1 } :=
      I.turnedNew (ch := [e, it]) (fun b ob hb q => (sb.2 b (fun z => hb (by simp [z]))).trans (hk b ob (fun z => hb (by simp [z])) (fun z => hb (by simp [z])) q)) hf (Nat.le_refl _) nw
    refine ⟨.ref s.heap.objs.size, _, I1, rfl, ⟨_, x, rfl, I.hok.fresh (Nat.le_refl _), rfl, fun ys hy => by rw [I.tuple_inj hy hq]; exact hx⟩, ⟨⟨y, ?_⟩, st1.1.at fun o q => (sb.2 it (Ne.symm nee)).trans q⟩, fun b hb => ?_⟩
    · have e1 : ((i + 1 : Nat) : Int) = (i : Int) + 1 := by omega
      rw [e1]
      exact he2
    · have hb' : b < s.heap.objs.size := by
        rcases (show b = e ∨ b = it by simpa using hb) with rfl | rfl
        · exact hel
        · exact hil
      rw [upd_ne (Nat.ne_of_lt hb')]
      exact (hf b hb).1
  done := by
    intro X hP hw hK hc i pins s σ H E I hf st hg
    subst hP hw hK
    obtain ⟨⟨old, he⟩, hit⟩ := st
    obtain ⟨xs, hq, hx⟩ := hg
    obtain ⟨its, rv, p, hz⟩ := I.tuple hq
    obtain ⟨f0, f1, f2, f3, f4, f5⟩ := hf it (by simp)
    have hl := rv.length
    have Dr := Draws.tuple (prog := X.prog) (w := X.w) (A := X.A.in1) (I.ok.hd hc) it a nea its.toArray
    have ei : i = its.toArray.size := by simp; omega
    refine wpAny_pyNext_enum_endD Dr he ⟨by rw [← ei]; exact hit, p⟩ fun h1 eb => ⟨rfl, I.turned (t' := s.toks) (fun b o hb q => eb b o hb q) f0 f1 f3 f4 f5⟩
  self := fun A i s Q E st h => let ⟨⟨_, he⟩, _⟩ := st; wpAny_pyIter_enum he h
def iEnumT (K : PySem.W.Frag) (ta : TA) : TI := fun σ H R => ta σ H fun vs H1 => ∃ a xs, vs = [.ref a] ∧ SqT K H1 a xs ∧ R (ItE K a) H1
theorem pi_enumT {X : Cx} {e : Expr} {ta : TA} {p pos tpos : Pos} {elts : List Expr} {kk : Nat} (hg : Gl X "enumerate") (hm : X.mg "enumerate" = none) (ha : PA X [e] ta) (hs : starEach [e] X.env = [(false, eval e X.env)] := by rfl) :
    PI X (.Tuple elts kk tpos) (.Call (.Name "enumerate" p) [e] [] pos) (iEnumT X.K ta) := by
  refine ⟨fun pins s σ H R I h => ?_⟩
  refine Call_ (ld_blt I hg hm boot_enumerate (PyProof.Rows.callWith_type1 (thn (ha.run pos pins s σ H _ I h) fun us s1 ⟨vs, H1, I1, r1, q1⟩ => ?_) hs rfl))
  obtain ⟨a, xs, ex, hq, q⟩ := q1
  subst ex
  cases r1 with
  | cons r rr =>
    cases rr
    cases r
    obtain ⟨its, rv, p', hz⟩ := I1.tuple hq
    have hal : a < s1.heap.objs.size := by obtain ⟨_, q, _⟩ := p'; exact Heap.lt_size q
    refine fm_call_enum (begins_tuple a its.toArray) p' fun h' he ho hk => wpAny_pyIter_enum he ?_
    have I2 : Inv X pins σ H1 { s1 with heap := h' } := I1.kept (t' := s1.toks) hk
    refine ⟨s1.heap.objs.size + 1, [s1.heap.objs.size + 1, s1.heap.objs.size], _, _, H1, rfl, I2, turn_enumT a (s1.heap.objs.size + 1) s1.heap.objs.size (Nat.ne_of_lt hal) (Nat.succ_ne_self _) (Nat.ne_of_gt (Nat.lt_succ_of_lt hal)), ⟨⟨.none, he⟩, ⟨_, ho, rfl, rfl⟩⟩, fun b hb => ?_, q⟩
    have hle : s1.heap.objs.size ≤ b := by
      rcases (show b = s1.heap.objs.size + 1 ∨ b = s1.heap.objs.size by simpa using hb) with z | z
      · rw [z]; exact Nat.le_add_right _ _
      · rw [z]; exact Nat.le_refl _
    exact I1.fpOk hle (I1.hok.fresh hle)
/-- one of two ways to walk -/
theorem pi_or {X : Cx} {tg iter : Expr} {w1 w2 : TI} (h1 : PI X tg iter w1) (h2 : PI X tg iter w2) : PI X tg iter (fun σ H R => w1 σ H R ∨ w2 σ H R) := by
  refine ⟨fun pins s σ H R I h => ?_⟩
  rcases h with h | h
  · exact h1.run pins s σ H R I h
  · exact h2.run pins s σ H R I h
theorem walk_enumT {K : PySem.W.Frag} {a : Addr} {xs : List V} : Walk (ItE K a) xs.length (fun H => SqT K H a xs) (YPair (fun i => some (.int (i : Nat))) (fun i => xs[i]?)) := by
  refine ⟨fun i _ hi q => ⟨xs, xs[i], q, by simp [hi]⟩, fun _ q => ⟨xs, q, rfl⟩, fun i H v H' _ q y => ?_⟩
  obtain ⟨T, x, h1, h2, h3, h4⟩ := y
  exact ⟨T, .int (i : Nat), x, h1, h2, h3, rfl, h4 xs q⟩
end Fm

namespace Fm
open PySem PySem.Spec PyProof.Rows L2
/-! ### an own error with one attribute -/
/-- what __init__(self, f) promises: self.f = f -/
def spErr (C : Addr) (f : Str) : Sp := fun vs H Q _ => ∃ (a : Addr) (y : V), vs = [.ref a, y] ∧ H a = some (exo a C none) ∧
  ∀ dx, H dx = none → dx ≠ a → Q .non (upd (upd H dx (exd dx [(f, y)])) a (exo a C (some dx)))
structure Err (P : Program) (w : World) (K : PySem.W.Frag) (mg : Str → Option Value) (base : Heap) (x : Str) (f : Str) (C : Addr) : Prop where
  oex : OexC K C
  gl : mg x = some (.ref C)
  ini : ∃ fI fd, PySem.W.findIn K (.ref C) "__init__" = some (some (.ref fI)) ∧ PySem.W.typeIn K (.ref fI) = some (.type "function") ∧ FnOk P w K mg base CX0 1 fI fd ["self", f] (spErr C f) ∧ Binds K fd ["self", f] []
  no : PySem.W.findIn K (.ref C) f = some none
  xf : XfC K C
theorem heap_err {H : Hp} {a d : Addr} {o1 o2 o3 o4 : HO} (ha : H a = none) (hd : d ≠ a) : upd (del (upd (upd (upd H a o1) d o2) a o3) a) d o4 = upd H d o4 := by
  funext b
  by_cases z : b = d
  · rw [z, upd_same, upd_same]
  · rw [upd_ne z, upd_ne z]
    by_cases y : b = a
    · rw [y, del_same, ha]
    · rw [del_ne y, upd_ne y, upd_ne z, upd_ne y]
/-- the end of C(v): the wish, told of the error's own new dict -/
theorem err_in {C : Addr} {f : Str} {v : V} {H1 : Hp} {a : Addr} {Q : XK} {E : XK} (ha : H1 a = none) (q : ∀ d, H1 d = none → Q (.ref C) (some d) (upd H1 d (.xd [(f, v)]))) :
    spErr C f [.ref a, v] (upd H1 a (exo a C none)) (fun u H2 => u = .non ∧ ∃ (d : Addr) (fs : List (Str × V)), H2 a = some (exo a C (some d)) ∧ H2 d = some (exd d fs) ∧ H1 d = none ∧ Q (.ref C) (some d) (upd (del H2 a) d (.xd fs))) E := by
  refine ⟨a, v, rfl, upd_same, fun dx hdx hne => ⟨rfl, dx, [(f, v)], upd_same, by rw [upd_ne hne, upd_same], ?_, ?_⟩⟩
  · rw [upd_ne hne] at hdx; exact hdx
  · rw [heap_err ha hne]
    rw [upd_ne hne] at hdx
    exact q dx hdx
section
variable {X : Cx}
/-- raise C(e) -/
theorem ps_raiseE {x f : Str} {C : Addr} {a : Expr} {ta : TA} {W : WX} {p pos pos2 : Pos} {k : Nat} (hc : X.calm = true) (T : Err X.prog X.w X.K X.mg X.base x f C) (hr : Room k X.A) (hk : 2 ≤ k) (tk : Takes X W) (ha : PA X [a] ta) (hg : Gl X x := by rfl)
    (hdb : (x == ("__debug__" : Str)) = false := by decide) (he : starEach (a :: []) X.env = (false, eval a X.env) :: starEach [] X.env := by rfl) (hpl : (backTo pos (starEach [] X.env)).any (·.1) = false := by rfl) :
    PS X (.Raise (some (.Call (.Name x p) [a] [] pos)) none pos2) (fun _ σ H => tMkO C (spErr C f) [] ta σ H fun cls d H' => W cls d σ H') := by
  obtain ⟨fI, fd, h1, h2, F, b⟩ := T.ini
  exact ps_raise hc tk (pmk_oex (k := 1) T.oex h1 h2 F (hr.mono hk) b .nil (fun _ _ _ _ _ _ _ z => z.elim) hg T.gl ha hdb he hpl)
end
section
variable {P : Program} {w : World} {K : PySem.W.Frag} {mg : Str → Option Value} {base : Heap}
/-- __init__ of an error whose body is self.f = f -/
theorem ok_err {f : Str} {qual : Str} {C fI : Addr} {fd : FuncData} {st : Stmt} (F : Fun K "__init__" qual st fI fd) (S : FnScope ["self", f] ["self", f] (defScope st)) (ox : OexC K C) (no : PySem.W.findIn K (.ref C) f = some none)
    (hb : ∀ (X : Cx), X.N = ([("self" : Str), f] : List Str) → X.env.scope = defScope st → PSs X (defBody st) (tOst X.K f (tVar 0) (tVar 1))) : FnOk P w K mg base CX0 1 fI fd ["self", f] (spErr C f) := by
  refine F.ok S (fun vs H Q E h => ?_) (fun cdv A outer s H vs Q E hr h => ⟨_, hb _ rfl rfl, ?_⟩)
  · obtain ⟨a, y, rfl, _⟩ := h; rfl
  · obtain ⟨a, y, rfl, ha, k⟩ := h
    exact ⟨_, rfl, _, rfl, a, C, rfl, ox, no, .inl ⟨ha, fun dx h1 h2 => k dx h1 h2⟩⟩
end
end Fm

namespace Fm
open PySem PySem.Spec PyProof.Rows L2
/-! ### the package's own looks at things: rows, names, tables -/
noncomputable def bP (p : Prop) : Bool := @decide p (Classical.propDecidable p)
theorem bP_t {p : Prop} (h : p) : bP p = true := by unfold bP; exact @decide_eq_true p (Classical.propDecidable p) h
theorem bP_f {p : Prop} (h : ¬ p) : bP p = false := by unfold bP; exact @decide_eq_false p (Classical.propDecidable p) h
def NmD (d : PyData) : Prop := ∃ w, d = .str w ∧ IsNm w
def spIsRow : Sp := fun vs H Q _ => ∃ (S : Addr → Prop) (q : Bool) (n : Nat) (x : V) (d : PyData), vs = [x] ∧ Dt S q H n x d ∧ ∀ H', Kp [] H H' → Q (.bl (isRowD d)) H'
def spIsName : Sp := fun vs H Q _ => ∃ (S : Addr → Prop) (q : Bool) (n : Nat) (x : V) (d : PyData), vs = [x] ∧ Dt S q H n x d ∧ Q (.bl (bP (NmD d))) H
/-- a row of lo to hi unlike names -/
def NmsD (lo hi : Nat) (d : PyData) (ws : List Str) : Prop := (d = .list (ws.map .str) ∨ d = .tuple (ws.map .str)) ∧ (∀ w ∈ ws, IsNm w) ∧ ws.Nodup ∧ lo ≤ ws.length ∧ ws.length ≤ hi
def spAreNames : Sp := fun vs H Q _ => ∃ (S : Addr → Prop) (q : Bool) (n : Nat) (x : V) (d : PyData) (lo hi : Nat), vs = [x, .int lo, .int hi] ∧ Dt S q H n x d ∧ ∀ H', Kp [] H H' → Q (.bl (bP (∃ ws, NmsD lo hi d ws))) H'
def TabD (d : PyData) (t : Str × List Str) : Prop := ∃ e, d = .tuple [.str t.1, e] ∧ IsNm t.1 ∧ NmsD 1 4 e t.2
def spIsTable : Sp := fun vs H Q _ => ∃ (S : Addr → Prop) (q : Bool) (n : Nat) (x : V) (d : PyData), vs = [x] ∧ Dt S q H n x d ∧ ∀ H', Kp [] H H' → Q (.bl (bP (∃ t, TabD d t))) H'
theorem abc_mem {c : Nat} : c ∈ abc.cps.toList ↔ 97 ≤ c ∧ c ≤ 122 := by
  constructor
  · intro h
    obtain ⟨n, hn, e⟩ := List.getElem_of_mem h
    rw [abc_size] at hn
    have := abc_at n hn
    rw [List.getElem?_eq_getElem (by rw [abc_size]; exact hn)] at this
    have := Option.some.inj this
    omega
  · intro h
    have := abc_at (c - 97) (by omega)
    have e : 97 + (c - 97) = c := by omega
    rw [e] at this
    exact List.mem_of_getElem? this
theorem DtAll.take {S : Addr → Prop} {q : Bool} {H : Hp} : ∀ {n : Nat} {v : List V} {d : List PyData}, DtAll S q H n v d → ∀ i : Nat, DtAll S q H n (v.take i) (d.take i)
  | _, _, _, .nil, i => by rw [List.take_nil, List.take_nil]; exact .nil
  | _, _, _, .cons a b, 0 => .nil
  | _, _, _, .cons a b, i + 1 => .cons a (DtAll.take b i)
theorem DtAll.strs {S : Addr → Prop} {q : Bool} {H : Hp} {n : Nat} : ∀ {v : List V} {ws : List Str}, DtAll S q H n v (ws.map .str) → v = ws.map V.str
  | [], [], _ => rfl
  | _ :: _, [], h => by cases h
  | [], _ :: _, h => by cases h
  | x :: v, w :: ws, h => by
    cases h with
    | cons a b =>
      cases a
      rw [DtAll.strs b]; rfl
theorem strs_at {us : List Str} {i : Nat} {w : Str} (h : (us.map PyData.str)[i]? = some (.str w)) : us[i]? = some w := by
  rw [List.getElem?_map] at h
  cases e : us[i]? with
  | none => rw [e] at h; cases h
  | some y => rw [e] at h; cases h; rfl
theorem strs_inj : ∀ {us ws : List Str}, us.map PyData.str = ws.map PyData.str → us = ws
  | [], [], _ => rfl
  | [], _ :: _, h => by cases h
  | _ :: _, [], h => by cases h
  | a :: us, b :: ws, h => by
    rw [List.map_cons, List.map_cons] at h
    injection h with h1 h2
    injection h1 with h1
    rw [h1, strs_inj h2]
theorem strs_take {us ws : List Str} {i : Nat} (h : ws.map PyData.str = (us.map PyData.str).take i) : us.take i = ws := by
  rw [← List.map_take] at h
  exact (strs_inj h).symm
theorem cut_take {xs : List V} {i : Nat} (h : i ≤ xs.length) : cutV xs none (some ((i : Nat) : Int)) = xs.take i := by
  have e1 : HT.sIx xs.length xs.length (some ((i : Nat) : Int)) = min i xs.length := HT.sIx_nat _ _ i
  unfold cutV
  rw [e1, HT.sIx_none, List.drop_zero, Nat.sub_zero, Nat.min_eq_left h]
section
variable {P : Program} {w : World} {K : PySem.W.Frag} {mg : Str → Option Value} {base : Heap}
theorem cut_not {n i : Nat} (h : i < n) : ¬ (HT.sIx n 0 none = 0 ∧ HT.sIx n n (some ((i : Nat) : Int)) = n) := by
  rintro ⟨_, e⟩
  rw [HT.sIx_nat] at e
  omega
theorem ok_is_row (B : Bi mg) (D : Dfn K mg "is_row" s_is_row ["thing"]) : Has P w K mg base CX0 "is_row" ["thing"] 1 spIsRow := by
  refine D.has sc_is_row (fun vs H Q E h => ?_) (fun f cdv A outer s H vs Q E hr h => ?_)
  · obtain ⟨S, q, n, x, d, rfl, _⟩ := h; rfl
  · obtain ⟨S, q, n, x, d, rfl, hx, k⟩ := h
    refine ⟨_, (pss_one (ps_ret (pe_callB call_isiT (by rfl) B.isinstance (by decide +kernel) (pa_cons (pv 0) (pa_cons (pe_tup (pa_cons (pe_bltn (v := .ty "list") (by rfl) B.list (by decide +kernel) rfl) (pa_cons (pe_bltn (v := .ty "tuple") (by rfl) B.tuple (by decide +kernel) rfl) pa_nil))) pa_nil))))), ?_⟩
    exact ⟨_, rfl, (by show 2 ≤ sizeLine; decide), fun T hT => ⟨_, T, _, _, _, _, rfl, upd_same, .cons (.ty _) (.cons (.ty _) .nil), (hx.keep (Kp.new hT)).ty, kit_row _, k _ (Kp.new hT)⟩⟩
theorem ok_is_name {tk : Tok} (B : Bi mg) (L : mg "LETTERS" = some (.str abc tk)) (D : Dfn K mg "is_name" s_is_name ["thing"]) : Has P w K mg base CX0 "is_name" ["thing"] 1 spIsName := by
  refine D.has sc_is_name (fun vs H Q E h => ?_) (fun f cdv A outer s H vs Q E hr h => ?_)
  · obtain ⟨S, q, n, x, d, rfl, _⟩ := h; rfl
  · obtain ⟨S, q, n, x, d, rfl, hx, k⟩ := h
    refine ⟨_, (pss_cons (ps_if (PW.pt (pw_or (pt_not (pt_val (pe_callB call_isi (by rfl) B.isinstance (by decide +kernel) (pa_cons (pv 0) (pa_cons (pe_bltn (v := .ty "str") (by rfl) B.str (by decide +kernel) rfl) pa_nil))))) (pw_or1 (pt_not (pt_chain op_le op_le pe_int (pe_callB call_len (by rfl) B.len PySem.boot_len (pa_cons (pv 0) pa_nil)) pe_int)))))
  (pss_one (ps_ret pe_bl))
  pss_nil)
  (pss_cons (ps_for PassesOwn.never rfl (pi_str (pv 0)) (pg_name (i := 1) sc_is_name.nd rfl (by first | exact Or.inl rfl | exact Or.inr rfl))
  (pss_one (ps_if (pt_cmpR op_notIn_sign (pv 1) (pe_glob (v := .str abc) rfl L ⟨_, rfl⟩) (by rfl))
  (pss_one (ps_ret pe_bl))
  pss_nil)))
  (pss_one (ps_ret pe_bl)))), ?_⟩
    refine ⟨_, rfl, _, _, _, _, _, rfl, .ty _, hx.ty, kit_ty (kb_str _), _, rfl, ?_⟩
    cases hx with
    | str z hz =>
      refine iteF ?_
      refine ⟨_, rfl, _, z.length, rfl, ⟨Nat.le_trans hz (by decide), rfl⟩, _, _, rfl, rfl, _, rfl, ?_⟩
      by_cases h1 : 1 ≤ z.length
      · rw [decide_eq_true (show (1 : Int) ≤ (z.length : Int) by omega)]
        refine iteT ?_
        refine ⟨_, _, rfl, rfl, _, rfl, ?_⟩
        by_cases h8 : z.length ≤ 8
        · rw [decide_eq_true (show (z.length : Int) ≤ 8 by omega)]
          refine iteF ?_
          refine ⟨_, rfl, z, rfl, ?_⟩
          refine for_it walk_str (fun i σ H' => (∃ v : Option V, σ = [some (.str z), v]) ∧ H' = H ∧ ∀ j c, j < i → z.cps[j]? = some c → 97 ≤ c ∧ c ≤ 122) ⟨⟨none, rfl⟩, rfl, fun j c h => absurd h (by omega)⟩ (fun _ _ _ _ _ => trivial) ?_ ?_
          · rintro i v σ H1 H2 hi ⟨⟨v0, rfl⟩, rfl, hj⟩ ⟨rfl, c, hc, rfl⟩
            refine ⟨_, rfl, c, abc, rfl, rfl, _, rfl, ?_⟩
            by_cases hm : c ∈ abc.cps.toList
            · rw [decide_eq_true hm]
              refine iteF ?_
              refine ⟨⟨_, rfl⟩, rfl, fun j c' h e => ?_⟩
              by_cases z' : j = i
              · rw [z', hc] at e
                cases e
                exact abc_mem.mp hm
              · exact hj j c' (by omega) e
            · rw [decide_eq_false hm]
              refine iteT ?_
              rw [bP_f] at k
              · exact k
              · rintro ⟨w', e, n1, n2, n3⟩
                cases e
                exact hm (abc_mem.mpr (n3 c (by
                  have : z.cps.toList[i]? = some c := by simpa using hc
                  exact List.mem_of_getElem? this)))
          · rintro σ H1 ⟨⟨v0, rfl⟩, rfl, hj⟩
            rw [bP_t] at k
            · exact k
            · refine ⟨z, rfl, h1, h8, fun c hc => ?_⟩
              obtain ⟨j, hj', e⟩ := List.getElem_of_mem hc
              have hj2 : j < z.cps.size := by simpa using hj'
              exact hj j c hj2 (by rw [← e]; simp [hj2])
        · rw [decide_eq_false (show ¬ (z.length : Int) ≤ 8 by omega)]
          refine iteT ?_
          rw [bP_f] at k
          · exact k
          · rintro ⟨w', e, n1, n2, n3⟩
            cases e
            exact h8 n2
      · rw [decide_eq_false (show ¬ (1 : Int) ≤ (z.length : Int) by omega)]
        refine iteF ?_
        refine ⟨_, rfl, ?_⟩
        refine iteT ?_
        rw [bP_f] at k
        · exact k
        · rintro ⟨w', e, n1, n2, n3⟩
          cases e
          exact h1 n1
    | _ =>
      refine iteT (iteT ?_)
      rw [bP_f] at k
      · exact k
      · rintro ⟨w', e, _⟩
        cases e
theorem ok_are_names (B : Bi mg) (D : Dfn K mg "are_names" s_are_names ["thing", "least", "most"]) (G_is_row : Has P w K mg base CX0 "is_row" ["thing"] 1 spIsRow) (G_is_name : Has P w K mg base CX0 "is_name" ["thing"] 1 spIsName) :
    Has P w K mg base CX0 "are_names" ["thing", "least", "most"] 2 spAreNames := by
  refine D.has sc_are_names (fun vs H Q E h => ?_) (fun f cdv A outer s H vs Q E hr h => ?_)
  · obtain ⟨S, q, n, x, d, lo, hi, rfl, _⟩ := h; rfl
  · obtain ⟨S, q, n, x, d, lo, hi, rfl, hx, k⟩ := h
    refine ⟨_, (pss_cons (ps_if (PW.pt (pw_or (pt_not (pt_val (pe_has G_is_row hr (pa_cons (pv 0) pa_nil)))) (pw_or1 (pt_not (pt_chain op_le op_le (pv 1) (pe_callB call_len (by rfl) B.len PySem.boot_len (pa_cons (pv 0) pa_nil)) (pv 2))))))
  (pss_one (ps_ret pe_bl))
  pss_nil)
  (pss_cons (ps_for PassesOwn.never rfl (pi_or (pi_enum (by rfl) B.enumerate (pa_cons (pv 0) pa_nil)) (pi_enumT (by rfl) B.enumerate (pa_cons (pv 0) pa_nil))) (pg_tup rfl (pgs_cons (pg_name (i := 3) sc_are_names.nd rfl (by first | exact Or.inl rfl | exact Or.inr rfl)) (pgs_cons (pg_name (i := 4) sc_are_names.nd rfl (by first | exact Or.inl rfl | exact Or.inr rfl)) pgs_nil)))
  (pss_one (ps_if (PW.pt (pw_or (pt_not (pt_val (pe_has G_is_name hr (pa_cons (pv 4) pa_nil)))) (pw_or1 (pt_cmpR op_in_seq (pv 4) (pe_slice (sl_list.or sl_tup) (pv 0) po_none (po_some (pv 3))) (by rfl)))))
  (pss_one (ps_ret pe_bl))
  pss_nil)))
  (pss_one (ps_ret pe_bl)))), ?_⟩
    refine ⟨_, rfl, S, q, n, x, d, rfl, hx, fun H1 k1 => ⟨_, rfl, ?_⟩⟩
    have hx1 := hx.keep k1
    by_cases hd : isRowD d = true
    · rw [hd]
      rcases (show (∃ ds, d = .list ds) ∨ ∃ ds, d = .tuple ds by cases d <;> first | exact .inl ⟨_, rfl⟩ | exact .inr ⟨_, rfl⟩ | cases hd) with ⟨ds, rfl⟩ | ⟨ds, rfl⟩
      · -- a list
        cases hx1 with
        | @lst m p xs _ rx lx ax =>
          have hx1 : Dt S q H1 (m + 1) (.ref p) (.list ds) := .lst rx lx ax
          have el : xs.length = ds.length := ax.len
          refine iteF ?_
          refine ⟨_, rfl, _, rfl, _, _, rfl, .inl ⟨_, .inl rx, rfl⟩, _, _, rfl, rfl, _, rfl, ?_⟩
          have no : ∀ {p : Prop}, (∀ ws, NmsD lo hi (.list ds) ws → ds.length = ws.length) := fun {p} ws h => by
            rcases h.1 with e | e
            all_goals first | (cases e; rw [List.length_map]) | cases e
          by_cases h1 : lo ≤ xs.length
          · rw [decide_eq_true (show (lo : Int) ≤ (xs.length : Int) by omega)]
            refine iteT ?_
            refine ⟨_, rfl, _, _, rfl, rfl, _, rfl, ?_⟩
            by_cases h2 : xs.length ≤ hi
            · rw [decide_eq_true (show (xs.length : Int) ≤ (hi : Int) by omega)]
              refine iteF ?_
              refine .inl ⟨_, rfl, p, xs, rfl, .inl rx, ?_⟩
              refine for_it (walk_enum (xs := xs)) (fun i σ H' => (∃ v w : Option V, σ = [some (.ref p), some (.int lo), some (.int hi), v, w]) ∧ Kp [] H1 H' ∧ ∃ ws : List Str, ds.take i = ws.map .str ∧ (∀ w ∈ ws, IsNm w) ∧ ws.Nodup) ⟨⟨none, none, rfl⟩, Kp.refl _, [], rfl, (fun w h => nomatch h), List.nodup_nil⟩ (fun i σ H' _ ⟨_, k2, _⟩ => .inl (k2.rd (fun z => nomatch z) rx)) ?_ ?_
              · rintro i v σ H2 H3 hi' ⟨⟨v0, w0, rfl⟩, k2, ws, e1, e2, e3⟩ ⟨T, a1, y, rfl, hT, rfl, ea, ey⟩
                cases ea
                obtain ⟨dy, hdy, dt⟩ := ax.getV ey
                have k3 : Kp [] H1 (upd H2 T (.tup [.int (i : Nat), y])) := k2.snoc hT
                refine ⟨T, _, rfl, SqT.of upd_same, rfl, _, _, rfl, _, _, rfl, rfl, ?_⟩
                refine ⟨_, rfl, S, q, m, y, dy, rfl, dt.keep k3, _, rfl, ?_⟩
                by_cases hn : NmD dy
                · rw [bP_t hn]
                  refine iteF ?_
                  obtain ⟨w1, rfl, nw⟩ := hn
                  cases dt with
                  | str _ hz =>
                    have et : xs.take i = ws.map V.str := DtAll.strs (by rw [← e1]; exact ax.take i)
                    refine ⟨_, rfl, _, rfl, _, rfl, _, rfl, .inl ⟨p, xs, rfl, .inl (k3.rd (fun z => nomatch z) rx), fun P' hP => ⟨P', _, rfl, .inl (SqL.of upd_same), rfl, by rw [cut_take (by omega), et]; exact flat_strs ws, ?_⟩⟩⟩
                    rw [cut_take (by omega)]
                    rw [et, inV_strs]
                    refine ⟨_, rfl, ?_⟩
                    by_cases hm : w1 ∈ ws
                    · rw [decide_eq_true hm]
                      refine iteT ?_
                      rw [bP_f] at k
                      · exact k _ (k1.trans (k3.snoc hP))
                      · rintro ⟨us, hu⟩
                        have eu : ds = us.map .str := by
                          rcases hu.1 with e | e
                          all_goals first | (cases e; rfl) | cases e
                        have h3 : us[i]? = some w1 := strs_at (eu ▸ hdy)
                        have h4 : us.take i = ws := strs_take (by rw [← e1, eu])
                        exact notin_take hu.2.2.1 h3 (by rw [h4]; exact hm)
                    · rw [decide_eq_false hm]
                      refine iteF ?_
                      refine ⟨⟨_, _, rfl⟩, k3.snoc hP, ws ++ [w1], ?_, ?_, ?_⟩
                      · rw [take_snoc hdy, e1, List.map_append]; rfl
                      · intro w' h
                        rcases List.mem_append.mp h with h | h
                        · exact e2 w' h
                        · rw [List.mem_singleton.mp h]; exact nw
                      · exact nd_snoc e3 hm
                · rw [bP_f hn]
                  refine iteT (iteT ?_)
                  rw [bP_f] at k
                  · exact k _ (k1.trans k3)
                  · rintro ⟨us, hu⟩
                    have eu : ds = us.map .str := by
                      rcases hu.1 with e | e
                      all_goals first | (cases e; rfl) | cases e
                    subst eu
                    rw [List.getElem?_map] at hdy
                    cases e : us[i]? with
                    | none => rw [e] at hdy; cases hdy
                    | some w' =>
                      rw [e] at hdy
                      cases hdy
                      exact hn ⟨w', rfl, hu.2.1 w' (List.mem_of_getElem? e)⟩
              · rintro σ H2 ⟨⟨v0, w0, rfl⟩, k2, ws, e1, e2, e3⟩
                rw [el, List.take_length] at e1
                rw [bP_t] at k
                · exact k _ (k1.trans k2)
                · refine ⟨ws, .inl (by rw [e1]), e2, e3, ?_, ?_⟩
                  · have := congrArg List.length e1
                    rw [List.length_map] at this; omega
                  · have := congrArg List.length e1
                    rw [List.length_map] at this; omega
            · rw [decide_eq_false (show ¬ (xs.length : Int) ≤ (hi : Int) by omega)]
              refine iteT ?_
              rw [bP_f] at k
              · exact k _ k1
              · rintro ⟨ws, h⟩
                have := no (p := True) ws h
                have := h.2.2.2.2
                omega
          · rw [decide_eq_false (show ¬ (lo : Int) ≤ (xs.length : Int) by omega)]
            refine iteF ?_
            refine ⟨_, rfl, ?_⟩
            refine iteT ?_
            rw [bP_f] at k
            · exact k _ k1
            · rintro ⟨ws, h⟩
              have := no (p := True) ws h
              have := h.2.2.2.1
              omega
      · -- a tuple
        cases hx1 with
        | @tup m p xs _ rx lx ax =>
          have hx1 : Dt S q H1 (m + 1) (.ref p) (.tuple ds) := .tup rx lx ax
          have el : xs.length = ds.length := ax.len
          refine iteF ?_
          refine ⟨_, rfl, _, rfl, _, _, rfl, .inr ⟨_, .inl (.inl rx), rfl⟩, _, _, rfl, rfl, _, rfl, ?_⟩
          have no : ∀ {p : Prop}, (∀ ws, NmsD lo hi (.tuple ds) ws → ds.length = ws.length) := fun {p} ws h => by
            rcases h.1 with e | e
            all_goals first | (cases e; rw [List.length_map]) | cases e
          by_cases h1 : lo ≤ xs.length
          · rw [decide_eq_true (show (lo : Int) ≤ (xs.length : Int) by omega)]
            refine iteT ?_
            refine ⟨_, rfl, _, _, rfl, rfl, _, rfl, ?_⟩
            by_cases h2 : xs.length ≤ hi
            · rw [decide_eq_true (show (xs.length : Int) ≤ (hi : Int) by omega)]
              refine iteF ?_
              refine .inr ⟨_, rfl, p, xs, rfl, .inl (.inl rx), ?_⟩
              refine for_it (walk_enumT (xs := xs)) (fun i σ H' => (∃ v w : Option V, σ = [some (.ref p), some (.int lo), some (.int hi), v, w]) ∧ Kp [] H1 H' ∧ ∃ ws : List Str, ds.take i = ws.map .str ∧ (∀ w ∈ ws, IsNm w) ∧ ws.Nodup) ⟨⟨none, none, rfl⟩, Kp.refl _, [], rfl, (fun w h => nomatch h), List.nodup_nil⟩ (fun i σ H' _ ⟨_, k2, _⟩ => .inl (.inl (k2.tp _ _ rx))) ?_ ?_
              · rintro i v σ H2 H3 hi' ⟨⟨v0, w0, rfl⟩, k2, ws, e1, e2, e3⟩ ⟨T, a1, y, rfl, hT, rfl, ea, ey⟩
                cases ea
                obtain ⟨dy, hdy, dt⟩ := ax.getV ey
                have k3 : Kp [] H1 (upd H2 T (.tup [.int (i : Nat), y])) := k2.snoc hT
                refine ⟨T, _, rfl, SqT.of upd_same, rfl, _, _, rfl, _, _, rfl, rfl, ?_⟩
                refine ⟨_, rfl, S, q, m, y, dy, rfl, dt.keep k3, _, rfl, ?_⟩
                by_cases hn : NmD dy
                · rw [bP_t hn]
                  refine iteF ?_
                  obtain ⟨w1, rfl, nw⟩ := hn
                  cases dt with
                  | str _ hz =>
                    have et : xs.take i = ws.map V.str := DtAll.strs (by rw [← e1]; exact ax.take i)
                    refine ⟨_, rfl, _, rfl, _, rfl, _, rfl, .inr ⟨p, xs, rfl, .inl (.inl (k3.tp _ _ rx)), cut_not (by omega), fun P' hP => ⟨P', _, rfl, .inr (SqT.of upd_same), rfl, by rw [cut_take (by omega), et]; exact flat_strs ws, ?_⟩⟩⟩
                    rw [cut_take (by omega)]
                    rw [et, inV_strs]
                    refine ⟨_, rfl, ?_⟩
                    by_cases hm : w1 ∈ ws
                    · rw [decide_eq_true hm]
                      refine iteT ?_
                      rw [bP_f] at k
                      · exact k _ (k1.trans (k3.snoc hP))
                      · rintro ⟨us, hu⟩
                        have eu : ds = us.map .str := by
                          rcases hu.1 with e | e
                          all_goals first | (cases e; rfl) | cases e
                        have h3 : us[i]? = some w1 := strs_at (eu ▸ hdy)
                        have h4 : us.take i = ws := strs_take (by rw [← e1, eu])
                        exact notin_take hu.2.2.1 h3 (by rw [h4]; exact hm)
                    · rw [decide_eq_false hm]
                      refine iteF ?_
                      refine ⟨⟨_, _, rfl⟩, k3.snoc hP, ws ++ [w1], ?_, ?_, ?_⟩
                      · rw [take_snoc hdy, e1, List.map_append]; rfl
                      · intro w' h
                        rcases List.mem_append.mp h with h | h
                        · exact e2 w' h
                        · rw [List.mem_singleton.mp h]; exact nw
                      · exact nd_snoc e3 hm
                · rw [bP_f hn]
                  refine iteT (iteT ?_)
                  rw [bP_f] at k
                  · exact k _ (k1.trans k3)
                  · rintro ⟨us, hu⟩
                    have eu : ds = us.map .str := by
                      rcases hu.1 with e | e
                      all_goals first | (cases e; rfl) | cases e
                    subst eu
                    rw [List.getElem?_map] at hdy
                    cases e : us[i]? with
                    | none => rw [e] at hdy; cases hdy
                    | some w' =>
                      rw [e] at hdy
                      cases hdy
                      exact hn ⟨w', rfl, hu.2.1 w' (List.mem_of_getElem? e)⟩
              · rintro σ H2 ⟨⟨v0, w0, rfl⟩, k2, ws, e1, e2, e3⟩
                rw [el, List.take_length] at e1
                rw [bP_t] at k
                · exact k _ (k1.trans k2)
                · refine ⟨ws, .inr (by rw [e1]), e2, e3, ?_, ?_⟩
                  · have := congrArg List.length e1
                    rw [List.length_map] at this; omega
                  · have := congrArg List.length e1
                    rw [List.length_map] at this; omega
            · rw [decide_eq_false (show ¬ (xs.length : Int) ≤ (hi : Int) by omega)]
              refine iteT ?_
              rw [bP_f] at k
              · exact k _ k1
              · rintro ⟨ws, h⟩
                have := no (p := True) ws h
                have := h.2.2.2.2
                omega
          · rw [decide_eq_false (show ¬ (lo : Int) ≤ (xs.length : Int) by omega)]
            refine iteF ?_
            refine ⟨_, rfl, ?_⟩
            refine iteT ?_
            rw [bP_f] at k
            · exact k _ k1
            · rintro ⟨ws, h⟩
              have := no (p := True) ws h
              have := h.2.2.2.1
              omega
    · rw [Bool.eq_false_iff.mpr hd]
      refine iteT (iteT ?_)
      rw [bP_f] at k
      · exact k _ k1
      · rintro ⟨ws, h⟩
        rcases h.1 with e | e
        all_goals (rw [e] at hd; exact hd rfl)
theorem ok_is_table (B : Bi mg) (D : Dfn K mg "is_table" s_is_table ["thing"]) (G_is_name : Has P w K mg base CX0 "is_name" ["thing"] 1 spIsName) (G_are_names : Has P w K mg base CX0 "are_names" ["thing", "least", "most"] 2 spAreNames) :
    Has P w K mg base CX0 "is_table" ["thing"] 3 spIsTable := by
  refine D.has sc_is_table (fun vs H Q E h => ?_) (fun f cdv A outer s H vs Q E hr h => ?_)
  · obtain ⟨S, q, n, x, d, rfl, _⟩ := h; rfl
  · obtain ⟨S, q, n, x, d, rfl, hx, k⟩ := h
    have hr1 : Room 1 _ := hr.mono (by decide)
    refine ⟨_, (pss_one (ps_ret (pe_and (pe_callB call_isi (by rfl) B.isinstance (by decide +kernel) (pa_cons (pv 0) (pa_cons (pe_bltn (v := .ty "tuple") (by rfl) B.tuple (by decide +kernel) rfl) pa_nil))) (pe_and (pe_cmpR op_eq (pe_callB call_len (by rfl) B.len PySem.boot_len (pa_cons (pv 0) pa_nil)) pe_int (nomark _)) (pe_and (pe_has G_is_name hr1 (pa_cons (pe_ix ix_tup (pv 0) pe_int (fun _ _ => rfl)) pa_nil)) (pe_one (pe_has G_are_names hr (pa_cons (pe_ix ix_tup (pv 0) pe_int (fun _ _ => rfl)) (pa_cons pe_int (pa_cons pe_int pa_nil)))))))))), ?_⟩
    refine ⟨_, rfl, _, _, _, _, _, rfl, .ty _, hx.ty, kit_ty (kb_tuple _), _, rfl, ?_⟩
    cases hx with
    | @tup m p xs ds rx lx ax =>
      refine iteT ?_
      refine ⟨_, rfl, _, _, rfl, .inr ⟨_, .inl (.inl rx), rfl⟩, rfl, _, rfl, ?_⟩
      by_cases h2 : xs.length = 2
      · rw [decide_eq_true (show V.int (xs.length : Int) = V.int 2 by rw [h2]; rfl)]
        refine iteT ?_
        obtain ⟨x0, x1, rfl⟩ : ∃ x0 x1, xs = [x0, x1] := by
          match xs, h2 with
          | [a, b], _ => exact ⟨a, b, rfl⟩
        cases ax with
        | @cons _ _ _ d0 _ a0 ax =>
          cases ax with
          | @cons _ _ _ d1 _ a1 ax =>
            cases ax
            refine ⟨_, rfl, p, _, _, x0, rfl, rfl, .inl (.inl rx), rfl, S, q, m, x0, d0, rfl, a0, _, rfl, ?_⟩
            by_cases h0 : NmD d0
            · rw [bP_t h0]
              refine iteT ?_
              refine ⟨_, rfl, p, _, _, x1, rfl, rfl, .inl (.inl rx), rfl, S, q, m, x1, d1, 1, 4, rfl, a1, fun H1 k1 => ?_⟩
              obtain ⟨w0, rfl, nw⟩ := h0
              by_cases hw : ∃ ws, NmsD 1 4 d1 ws
              · rw [bP_t hw]
                obtain ⟨ws, hw⟩ := hw
                rw [bP_t ⟨(w0, ws), d1, rfl, nw, hw⟩] at k
                exact k H1 k1
              · rw [bP_f hw]
                rw [bP_f] at k
                · exact k H1 k1
                · rintro ⟨t, e, h, _, h'⟩
                  cases h
                  exact hw ⟨_, h'⟩
            · rw [bP_f h0]
              refine iteF ?_
              rw [bP_f] at k
              · exact k H (Kp.refl H)
              · rintro ⟨t, e, h, h', _⟩
                cases h
                exact h0 ⟨_, rfl, h'⟩
      · rw [decide_eq_false (fun z => h2 (by injection z with z; omega))]
        refine iteF ?_
        rw [bP_f] at k
        · exact k H (Kp.refl H)
        · rintro ⟨t, e, h, _⟩
          cases h
          exact h2 ax.len
    | _ =>
      refine iteF ?_
      rw [bP_f] at k
      · exact k H (Kp.refl H)
      · rintro ⟨t, e, h, _⟩
        cases h
end
end Fm

namespace Fm
open PySem PySem.Spec PyProof.Rows L2
/-! ### data of tuples alone: nothing changes it -/
abbrev TupH (H : Hp) : Addr → Prop := fun a => ∃ xs, H a = some (.tup xs)
abbrev Im (H : Hp) (n : Nat) (v : V) (d : PyData) : Prop := Dt (TupH H) true H n v d
abbrev ImAll (H : Hp) (n : Nat) (v : List V) (d : List PyData) : Prop := DtAll (TupH H) true H n v d
theorem tupH_keep {ms : List Addr} {H H' : Hp} (k : Kp ms H H') (a : Addr) (o : HO) (s : TupH H a) (e : H a = some o) : H' a = some o := by
  obtain ⟨xs, h⟩ := s
  rw [h] at e
  cases e
  exact k.tp a xs h
theorem Im.kp {ms : List Addr} {H H' : Hp} (k : Kp ms H H') {n : Nat} {v : V} {d : PyData} (h : Im H n v d) : Im H' n v d := Dt.keepS (fun a o s e => tupH_keep k a o s e) (fun a ⟨xs, h⟩ => ⟨xs, k.tp a xs h⟩) h
theorem ImAll.kp {ms : List Addr} {H H' : Hp} (k : Kp ms H H') {n : Nat} {v : List V} {d : List PyData} (h : ImAll H n v d) : ImAll H' n v d := DtAll.keepS (fun a o s e => tupH_keep k a o s e) (fun a ⟨xs, h⟩ => ⟨xs, k.tp a xs h⟩) h
/-! ### tables -/
def dTab (t : Str × List Str) : PyData := .tuple [.str t.1, .tuple (t.2.map .str)]
def dTabs (tbs : List (Str × List Str)) : PyData := .tuple (tbs.map dTab)
inductive TabsD : List PyData → List (Str × List Str) → Prop
  | nil : TabsD [] []
  | cons {d : PyData} {ds : List PyData} {t : Str × List Str} {ts : List (Str × List Str)} : TabD d t → TabsD ds ts → TabsD (d :: ds) (t :: ts)
theorem TabsD.len : ∀ {ds : List PyData} {ts : List (Str × List Str)}, TabsD ds ts → ds.length = ts.length
  | _, _, .nil => rfl
  | _, _, .cons _ h => congrArg (· + 1) h.len
theorem TabsD.snoc : ∀ {ds : List PyData} {ts : List (Str × List Str)} {d : PyData} {t : Str × List Str}, TabsD ds ts → TabD d t → TabsD (ds ++ [d]) (ts ++ [t])
  | _, _, _, _, .nil, h => .cons h .nil
  | _, _, _, _, .cons a b, h => .cons a (b.snoc h)
theorem TabsD.take : ∀ {ds : List PyData} {ts : List (Str × List Str)}, TabsD ds ts → ∀ i : Nat, TabsD (ds.take i) (ts.take i)
  | _, _, .nil, i => by rw [List.take_nil, List.take_nil]; exact .nil
  | _, _, .cons a b, 0 => .nil
  | _, _, .cons a b, i + 1 => .cons a (b.take i)
theorem TabsD.get : ∀ {ds : List PyData} {ts : List (Str × List Str)}, TabsD ds ts → ∀ {i : Nat} {d : PyData}, ds[i]? = some d → ∃ t, ts[i]? = some t ∧ TabD d t
  | _, _, .cons a b, 0, d, h => by cases h; exact ⟨_, rfl, a⟩
  | _, _, .cons a b, i + 1, d, h => b.get (i := i) h
theorem nms_inj {lo hi : Nat} {d : PyData} {ws ws' : List Str} (h : NmsD lo hi d ws) (h' : NmsD lo hi d ws') : ws = ws' := by
  rcases h.1 with e | e <;> rcases h'.1 with e' | e' <;> rw [e] at e'
  · exact strs_inj (PyData.list.inj e')
  · cases e'
  · cases e'
  · exact strs_inj (PyData.tuple.inj e')
theorem TabD.inj {d : PyData} {t t' : Str × List Str} (h : TabD d t) (h' : TabD d t') : t = t' := by
  obtain ⟨e, rfl, _, n⟩ := h
  obtain ⟨e', q, _, n'⟩ := h'
  injection q with q
  injection q with q1 q2
  injection q2 with q2 q3
  injection q1 with q1
  subst q2
  exact Prod.ext q1 (nms_inj n n')
theorem TabsD.inj : ∀ {ds : List PyData} {ts ts' : List (Str × List Str)}, TabsD ds ts → TabsD ds ts' → ts = ts'
  | _, _, _, .nil, .nil => rfl
  | _, _, _, .cons a b, .cons a' b' => by rw [a.inj a', b.inj b']
/-- the things of a row -/
def RowD (d : PyData) (ds : List PyData) : Prop := d = .list ds ∨ d = .tuple ds
def ShpD (d : PyData) (tbs : List (Str × List Str)) : Prop := ∃ ds, RowD d ds ∧ 1 ≤ ds.length ∧ ds.length ≤ 5 ∧ TabsD ds tbs ∧ (tbs.map (·.1)).Nodup
/-- the first thing that is wrong -/
def ShpBad (d : PyData) (i : Int) : Prop := (i = -1 ∧ ¬ ∃ ds, RowD d ds ∧ 1 ≤ ds.length ∧ ds.length ≤ 5) ∨
  ∃ ds k e tbs, RowD d ds ∧ 1 ≤ ds.length ∧ ds.length ≤ 5 ∧ i = ((k : Nat) : Int) ∧ ds[k]? = some e ∧ TabsD (ds.take k) tbs ∧ (tbs.map (·.1)).Nodup ∧ ¬ ∃ t, TabD e t ∧ t.1 ∉ tbs.map (·.1)
def ShapeAt (C : Addr) (H : Hp) (p : Addr) (tbs : List (Str × List Str)) : Prop := ∃ dx v, H p = some (.ins C dx [("tables", v)]) ∧ Im H 3 v (dTabs tbs)
theorem ShapeAt.kp {C : Addr} {H H' : Hp} {p : Addr} {tbs : List (Str × List Str)} {ms : List Addr} (h : ShapeAt C H p tbs) (k : Kp ms H H') (hp : p ∉ ms) : ShapeAt C H' p tbs := by
  obtain ⟨dx, v, h1, h2⟩ := h
  exact ⟨dx, v, k.at_ _ _ h1 hp, Im.kp k h2⟩
def spShapeI (C CE : Addr) : Sp := fun vs H Q E => ∃ (p dx : Addr) (S : Addr → Prop) (q : Bool) (n : Nat) (x : V) (d : PyData), vs = [.ref p, x] ∧ H p = some (.ins C dx []) ∧ Dt S q H n x d ∧
  (∀ tbs H', ShpD d tbs → Kp [p] H H' → ShapeAt C H' p tbs → Q .non H') ∧
  (∀ (i : Int) (dd : Addr) (H' : Hp), ShpBad d i → Kp [] H H' → H dd = none → H' dd = some (.xd [("at", .int i)]) → E (.ref CE) (some dd) H')
/-- what the top has of the class Shape -/
structure ShCls (K : PySem.W.Frag) (mg : Str → Option Value) (C : Addr) : Prop where
  cl : Cls K C
  nT : NoAttr K C "tables"
  mgC : mg "Shape" = some (.ref C)
theorem dtAll_strs {S : Addr → Prop} {q : Bool} {H : Hp} {n : Nat} : ∀ {ws : List Str}, (∀ w ∈ ws, w.length ≤ 1000000) → DtAll S q H n (ws.map V.str) (ws.map PyData.str)
  | [], _ => .nil
  | w :: ws, h => .cons (.str w (h w List.mem_cons_self)) (dtAll_strs fun x hx => h x (List.mem_cons_of_mem _ hx))
theorem Same.dt {S : Addr → Prop} {q : Bool} {H H' : Hp} {n : Nat} {v : V} {d : PyData} (h : Dt S q H n v d) (k : Same H H') (kt : ∀ a xs, H a = some (.tup xs) → H' a = some (.tup xs)) : Dt S q H' n v d := h.keep ⟨fun a o e _ => k a o e, kt⟩
section
variable {P : Program} {w : World} {K : PySem.W.Frag} {mg : Str → Option Value} {base : Heap}
theorem ok_shape_init {f C CE : Addr} {fd : FuncData} (B : Bi mg) (F : Fun K "__init__" "Shape.__init__" s_Shape_init f fd) (T : ShCls K mg C) (ER : ∀ base, Err P w K mg base "BadShape" "at" CE)
    (G_is_row : ∀ base, Has P w K mg base CX0 "is_row" ["thing"] 1 spIsRow) (G_is_table : ∀ base, Has P w K mg base CX0 "is_table" ["thing"] 3 spIsTable) :
    FnOk P w K mg base (L2.CX P w) 4 f fd ["self", "tables"] (spShapeI C CE) := by
  refine F.okX sc_Shape_init (fun vs H Q E h => ?_) (fun cdv A outer s H vs Q E hr h => ?_)
  · obtain ⟨p, dx, S, q, n, x, d, rfl, _⟩ := h; rfl
  · obtain ⟨p, dx, S, q, n, x, d, rfl, hp, hx, kQ, kE⟩ := h
    have hr1 : Room 1 _ := hr.mono (by decide)
    have hr3 : Room 3 _ := hr
    have G_is_row := G_is_row base
    have G_is_table := G_is_table base
    have ER := ER base
    refine ⟨_, (C8.pss_cut (ps_if (PW.pt (pw_or (pt_not (pt_val (pe_has G_is_row hr1 (pa_cons (pv 1) pa_nil)))) (pw_or1 (pt_not (pt_chain op_le op_le pe_int (pe_callB call_len (by rfl) B.len PySem.boot_len (pa_cons (pv 1) pa_nil)) pe_int)))))
  (pss_one (ps_raiseE rfl ER hr (by decide) (takes_of rfl rfl rfl rfl) (pa_cons (pe_un un_neg pe_int) pa_nil)))
  pss_nil)
  (pss_cons (ps_set (i := 2) sc_Shape_init.nd rfl (by first | exact Or.inl rfl | exact Or.inr rfl) (pe_lst pa_nil))
  (pss_cons (ps_set (i := 3) sc_Shape_init.nd rfl (by first | exact Or.inl rfl | exact Or.inr rfl) (pe_lst pa_nil))
  (pss_cons (ps_for (passes_of rfl) rfl (pi_or (pi_enum (by rfl) B.enumerate (pa_cons (pv 1) pa_nil)) (pi_enumT (by rfl) B.enumerate (pa_cons (pv 1) pa_nil))) (pg_tup rfl (pgs_cons (pg_name (i := 4) sc_Shape_init.nd rfl (by first | exact Or.inl rfl | exact Or.inr rfl)) (pgs_cons (pg_name (i := 5) sc_Shape_init.nd rfl (by first | exact Or.inl rfl | exact Or.inr rfl)) pgs_nil)))
  (pss_cons (ps_if (PW.pt (pw_or (pt_not (pt_val (pe_has G_is_table hr3 (pa_cons (pv 5) pa_nil)))) (pw_or1 (pt_cmpR op_in_seq (pe_ix ix_tup (pv 5) pe_int (fun _ _ => rfl)) (pv 2) (by rfl)))))
  (pss_one (ps_raiseE rfl ER hr (by decide) (takes_of rfl rfl rfl rfl) (pa_cons (pv 4) pa_nil)))
  pss_nil)
  (pss_cons (ps_expr (pe_bm PySem.F.plainAttrs_list PySem.F.slot_list_append PySem.F.type_list_append mt_append (pv 2) (pa_cons (pe_ix ix_tup (pv 5) pe_int (fun _ _ => rfl)) pa_nil)))
  (pss_one (ps_expr (pe_bm PySem.F.plainAttrs_list PySem.F.slot_list_append PySem.F.type_list_append mt_append (pv 3) (pa_cons (pe_tup (pa_cons (pe_ix ix_tup (pv 5) pe_int (fun _ _ => rfl)) (pa_cons (pe_callTy call_tuple_of (by rfl) B.tuple (by decide +kernel) (pa_cons (pe_ix ix_tup (pv 5) pe_int (fun _ _ => rfl)) pa_nil)) pa_nil))) pa_nil)))))))
  (pss_one (ps_fld (pv 0) (pe_callTy call_tuple_of (by rfl) B.tuple (by decide +kernel) (pa_cons (pv 3) pa_nil)) rfl)))))), ?_⟩
    refine ⟨fun σ H' => σ = [some (.ref p), some x, none, none, none, none] ∧ Kp [] H H' ∧ ∃ ds, RowD d ds ∧ 1 ≤ ds.length ∧ ds.length ≤ 5, ?_, ?_⟩
    · refine ⟨_, rfl, S, q, n, x, d, rfl, hx, fun H1 k1 => ⟨_, rfl, ?_⟩⟩
      have hx1 := hx.keep k1
      have bad : (¬ ∃ ds, RowD d ds ∧ 1 ≤ ds.length ∧ ds.length ≤ 5) → ∀ (dd : Addr), H1 dd = none → E (.ref CE) (some dd) (upd H1 dd (.xd [("at", .int (-1))])) := fun hb dd hdd =>
        kE (-1) dd _ (.inl ⟨rfl, hb⟩) (k1.snoc hdd) (k1.same.free hdd) upd_same
      by_cases hd : isRowD d = true
      · rw [hd]
        refine iteF ?_
        obtain ⟨xs, ds, hl, hrow, hlen⟩ : ∃ (xs : List V) (ds : List PyData), LenV K x H1 xs.length ∧ RowD d ds ∧ xs.length = ds.length := by
          cases hx1 with
          | lst rx lx ax => exact ⟨_, _, .inl ⟨_, .inl rx, rfl⟩, .inl rfl, ax.len⟩
          | tup rx lx ax => exact ⟨_, _, .inr ⟨_, .inl (.inl rx), rfl⟩, .inr rfl, ax.len⟩
          | _ => cases hd
        refine ⟨_, rfl, _, _, rfl, hl, _, _, rfl, rfl, _, rfl, ?_⟩
        have uniq : ∀ es, RowD d es → es = ds := fun es h => by
          rcases h with h | h <;> rcases hrow with h' | h' <;> rw [h] at h'
          · exact PyData.list.inj h'
          · cases h'
          · cases h'
          · exact PyData.tuple.inj h'
        by_cases h1 : 1 ≤ xs.length
        · rw [decide_eq_true (show (1 : Int) ≤ (xs.length : Int) by omega)]
          refine iteT ?_
          refine ⟨_, _, rfl, rfl, _, rfl, ?_⟩
          by_cases h5 : xs.length ≤ 5
          · rw [decide_eq_true (show (xs.length : Int) ≤ 5 by omega)]
            refine iteF ?_
            exact ⟨rfl, k1, ds, hrow, by omega, by omega⟩
          · rw [decide_eq_false (show ¬ (xs.length : Int) ≤ 5 by omega)]
            refine iteT ?_
            refine ⟨_, rfl, by simp, fun b hb => err_in hb fun dd hdd => bad ?_ dd hdd⟩
            rintro ⟨es, h, h', h''⟩
            rw [uniq es h] at h''
            omega
        · rw [decide_eq_false (show ¬ (1 : Int) ≤ (xs.length : Int) by omega)]
          refine iteF ?_
          refine ⟨_, rfl, ?_⟩
          refine iteT ?_
          refine ⟨_, rfl, by simp, fun b hb => err_in hb fun dd hdd => bad ?_ dd hdd⟩
          rintro ⟨es, h, h', h''⟩
          rw [uniq es h] at h'
          omega
      · rw [Bool.eq_false_iff.mpr hd]
        refine iteT (iteT ?_)
        refine ⟨_, rfl, by simp, fun b hb => err_in hb fun dd hdd => bad ?_ dd hdd⟩
        rintro ⟨es, h, h'⟩
        rcases h with h | h
        all_goals (rw [h] at hd; exact hd rfl)
    · rintro σ' H1 ⟨rfl, k1, ds, hrow, l1, l5⟩
      have hx1 := (hx.keep k1).inH
      refine ⟨by show 0 ≤ sizeLine; decide, fun pn hn => ⟨by show 0 ≤ sizeLine; decide, fun pm hm0 => ?_⟩⟩
      have npm : pn ≠ pm := fun z => by rw [← z, upd_same] at hm0; cases hm0
      have hm1 : H1 pm = none := by rw [upd_ne (Ne.symm npm)] at hm0; exact hm0
      have kk : Kp [] H1 (upd (upd H1 pn (.lst [])) pm (.lst [])) := (Kp.new hn).snoc hm0
      rcases hrow with rfl | rfl
      · cases hx1 with
        | @lst m a xs _ rx lx ax =>
          have el : xs.length = ds.length := ax.len
          have hrow : RowD (.list ds) ds := .inl rfl
          refine .inl ⟨_, rfl, a, xs, rfl, .inl (kk.rd (fun z => nomatch z) rx), ?_⟩
          refine for_it (walk_enum (xs := xs)) (fun i σ H' => (∃ v w : Option V, σ = [some (.ref p), some (.ref a), some (.ref pn), some (.ref pm), v, w]) ∧ Kp [] H1 H' ∧ ∃ (tbs : List (Str × List Str)) (ms : List V), TabsD (ds.take i) tbs ∧ (tbs.map (·.1)).Nodup ∧ H' pn = some (.lst ((tbs.map (·.1)).map V.str)) ∧ H' pm = some (.lst ms) ∧ ms.length = i ∧ ImAll H' 2 ms (tbs.map dTab))
            ⟨⟨none, none, rfl⟩, kk, [], [], .nil, List.nodup_nil, by rw [upd_ne npm, upd_same]; rfl, upd_same, rfl, .nil⟩ (fun i σ H' _ ⟨_, k2, _⟩ => .inl (k2.rd (fun z => nomatch z) rx)) ?_ ?_
          · rintro i v σ H2 H3 hi' ⟨⟨v0, w0, rfl⟩, k2, tbs, ms, t1, t2, h2, h3, t3, t4⟩ ⟨T, a1, y, rfl, hT, rfl, ea, ey⟩
            cases ea
            obtain ⟨dy, hdy, dt⟩ := ax.getV ey
            have k3 : Kp [] H1 (upd H2 T (.tup [.int (i : Nat), y])) := k2.snoc hT
            have Tpn : pn ≠ T := ne_of_none h2 hT
            have Tpm : pm ≠ T := ne_of_none h3 hT
            refine ⟨T, _, rfl, SqT.of upd_same, rfl, _, _, rfl, _, _, rfl, rfl, ?_⟩
            refine ⟨_, rfl, _, q, m, y, dy, rfl, dt.keep k3, fun H4 k4 => ⟨_, rfl, ?_⟩⟩
            have k5 : Kp [] H1 H4 := k3.trans k4
            have h2' : H4 pn = some (.lst ((tbs.map (·.1)).map V.str)) := k4.at_ _ _ (by rw [upd_ne Tpn]; exact h2) (fun z => nomatch z)
            have h3' : H4 pm = some (.lst ms) := k4.at_ _ _ (by rw [upd_ne Tpm]; exact h3) (fun z => nomatch z)
            have t4' : ImAll H4 2 ms (tbs.map dTab) := ImAll.kp ((Kp.new (ms := []) hT).trans k4) t4
            have bad : (¬ ∃ t, TabD dy t ∧ t.1 ∉ tbs.map (·.1)) → ∀ (dd : Addr), H4 dd = none → E (.ref CE) (some dd) (upd H4 dd (.xd [("at", .int ((i : Nat) : Int))])) := fun hb dd hdd => by
              have kH : Kp [] H H4 := k1.trans k5
              refine kE i dd _ (.inr ⟨ds, i, dy, tbs, hrow, l1, l5, rfl, hdy, t1, t2, hb⟩) (kH.snoc hdd) (kH.same.free hdd) upd_same
            by_cases ht : ∃ t, TabD dy t
            · rw [bP_t ht]
              refine iteF ?_
              obtain ⟨t, e, rfl, nt, ne⟩ := ht
              have dt' := dt.keep k5
              cases dt' with
              | @tup m' a' ys _ ry ly ay =>
                cases ay with
                | @cons _ y0 _ _ _ a0 ay =>
                  cases ay with
                  | @cons _ y1 _ _ _ a1 ay =>
                    cases ay
                    cases a0 with
                    | str _ hz =>
                      refine ⟨_, rfl, a', _, _, .str t.1, rfl, rfl, .inl (.inl ry), rfl, _, rfl, pn, _, rfl, .inl (SqL.of h2'), rfl, flat_strs _, _, rfl, ?_⟩
                      rw [inV_strs]
                      by_cases hm : t.1 ∈ tbs.map (·.1)
                      · rw [decide_eq_true hm]
                        refine iteT ?_
                        refine ⟨_, rfl, by simp, fun b hb => err_in hb fun dd hdd => bad ?_ dd hdd⟩
                        rintro ⟨t', h', hn'⟩
                        have := TabD.inj h' (show TabD (.tuple [.str t.1, e]) t from ⟨e, rfl, nt, ne⟩)
                        rw [this] at hn'
                        exact hn' hm
                      · rw [decide_eq_false hm]
                        refine iteF ?_
                        -- names.append(table[0])
                        have lt5 : i < 5 := by omega
                        have ltb : tbs.length = i := by
                          have := t1.len
                          rw [List.length_take] at this
                          omega
                        refine ⟨_, rfl, .inl ⟨rfl, _, SqL.of h2'⟩, _, rfl, a', _, _, .str t.1, rfl, rfl, .inl (.inl ry), rfl, pn, _, _, rfl, rfl, h2', by rw [List.length_map, List.length_map, ltb]; exact small1000 (by omega), ?_⟩
                        have npn : H1 pn = none := hn
                        have k6 : Kp [] H1 (upd H4 pn (.lst ((tbs.map (·.1)).map V.str ++ [.str t.1]))) := k5.late npn
                        have ry6 : ((upd H4 pn (.lst ((tbs.map (·.1)).map V.str ++ [.str t.1])))) a' = some (.tup [.str t.1, y1]) := (Kp.updL (ms := [pn]) h2' (by simp)).tp _ _ ry
                        have h36 : upd H4 pn (.lst ((tbs.map (·.1)).map V.str ++ [.str t.1])) pm = some (.lst ms) := by rw [upd_ne (Ne.symm npm)]; exact h3'
                        -- made.append((table[0], tuple(table[1])))
                        refine ⟨_, rfl, .inl ⟨rfl, _, SqL.of h36⟩, _, rfl, a', _, _, .str t.1, rfl, rfl, .inl (.inl ry6), rfl, _, rfl, a', _, _, y1, rfl, rfl, .inl (.inl ry6), rfl, ?_⟩
                        have fin : ∀ (H7 : Hp) (u : Addr), Kp [] (upd H4 pn (.lst ((tbs.map (·.1)).map V.str ++ [.str t.1]))) H7 → H7 u = some (.tup (t.2.map V.str)) → ∀ P', H7 P' = none →
                            (∃ v w : Option V, ([some (.ref p), some (.ref a), some (.ref pn), some (.ref pm), some (.int (i : Nat)), some (.ref a')] : L2.St) = [some (.ref p), some (.ref a), some (.ref pn), some (.ref pm), v, w]) ∧
                            Kp [] H1 (upd (upd H7 P' (.tup [.str t.1, .ref u])) pm (.lst (ms ++ [.ref P']))) ∧ ∃ (tbs : List (Str × List Str)) (ms' : List V), TabsD (ds.take (i + 1)) tbs ∧ (tbs.map (·.1)).Nodup ∧
                              upd (upd H7 P' (.tup [.str t.1, .ref u])) pm (.lst (ms ++ [.ref P'])) pn = some (.lst ((tbs.map (·.1)).map V.str)) ∧ upd (upd H7 P' (.tup [.str t.1, .ref u])) pm (.lst (ms ++ [.ref P'])) pm = some (.lst ms') ∧ ms'.length = i + 1 ∧ ImAll (upd (upd H7 P' (.tup [.str t.1, .ref u])) pm (.lst (ms ++ [.ref P']))) 2 ms' (tbs.map dTab) := by
                          intro H7 u k7 hu P' hP
                          have h37 : H7 pm = some (.lst ms) := k7.at_ _ _ h36 (fun z => nomatch z)
                          have k8 : Kp [pm] H7 (upd (upd H7 P' (.tup [.str t.1, .ref u])) pm (.lst (ms ++ [.ref P']))) := (Kp.new hP).trans (Kp.updL (by rw [upd_ne (ne_of_none h37 hP)]; exact h37) (by simp))
                          have hn7 : H7 pn = some (.lst ((tbs.map (·.1)).map V.str ++ [.str t.1])) := k7.at_ _ _ upd_same (fun z => nomatch z)
                          have uP : u ≠ P' := ne_of_none hu hP
                          have pP : P' ≠ pm := Ne.symm (ne_of_none h37 hP)
                          have hl2 := ne.2.2.2.2
                          have upm : u ≠ pm := fun z => by rw [z, h37] at hu; cases hu
                          refine ⟨⟨_, _, rfl⟩, ((k6.trans k7).snoc hP).late hm1, tbs ++ [t], ms ++ [.ref P'], ?_, ?_, ?_, upd_same, by simp [t3], ?_⟩
                          · rw [take_snoc hdy]; exact t1.snoc ⟨e, rfl, nt, ne⟩
                          · rw [List.map_append]; exact nd_snoc t2 hm
                          · rw [upd_ne npm, upd_ne (ne_of_none hn7 hP), hn7]; simp
                          · rw [List.map_append]
                            have km : Kp [pn, pm] H4 (upd (upd H7 P' (.tup [.str t.1, .ref u])) pm (.lst (ms ++ [.ref P']))) := ((Kp.updL h2' (by simp)).trans k7.zero).trans (k8.mono (by simp))
                            refine DtAll.append (ImAll.kp km t4') (.cons ?_ .nil)
                            refine .tup (by rw [upd_ne pP, upd_same]) ⟨by simp, _, by rw [upd_ne pP, upd_same]⟩ (.cons (.str _ hz) (.cons (.tup (by rw [upd_ne upm, upd_ne uP]; exact hu) ⟨by rw [List.length_map]; omega, _, by rw [upd_ne upm, upd_ne uP]; exact hu⟩ ?_) .nil))
                            exact dtAll_strs fun w' hw' => Nat.le_trans (ne.2.1 w' hw').2.1 (by decide)
                        rcases ne.1 with e1 | e1 <;> subst e1
                        · cases a1 with
                          | @lst _ b zs _ rb lb ab =>
                            have ez := DtAll.strs ab
                            subst ez
                            have rb6 : Rd (upd H4 pn (.lst ((tbs.map (·.1)).map V.str ++ [.str t.1]))) b (.lst (t.2.map V.str)) := (Kp.updL (ms := [pn]) h2' (by simp)).rd (by
                              intro z
                              have e' : b = pn := by simpa using z
                              exact lb.2.2 (by rw [e']; exact hn)) rb
                            refine ⟨b, _, rfl, .inl ⟨.inl rb6, fun u hu => ⟨by show 2 ≤ sizeLine; decide, fun P' hP => ?_⟩⟩⟩
                            have h38 : upd (upd (upd H4 pn (.lst ((tbs.map (·.1)).map V.str ++ [.str t.1]))) u (.tup (t.2.map V.str))) P' (.tup [.str t.1, .ref u]) pm = some (.lst ms) := by
                              have x1 : pm ≠ u := ne_of_none h36 hu
                              have x2 : pm ≠ P' := ne_of_none (by rw [upd_ne x1]; exact h36) hP
                              rw [upd_ne x2, upd_ne x1]; exact h36
                            refine ⟨pm, _, _, rfl, rfl, h38, by rw [t3]; exact small1000 (by omega), ?_⟩
                            exact fin _ u (Kp.new hu) upd_same P' hP
                        · cases a1 with
                          | @tup _ b zs _ rb lb ab =>
                            have ez := DtAll.strs ab
                            subst ez
                            have rb6 : ((upd H4 pn (.lst ((tbs.map (·.1)).map V.str ++ [.str t.1])))) b = some (.tup (t.2.map V.str)) := (Kp.updL (ms := [pn]) h2' (by simp)).tp _ _ rb
                            refine ⟨b, _, rfl, .inr ⟨.inl (.inl rb6), by show 2 ≤ sizeLine; decide, fun P' hP => ?_⟩⟩
                            have h38 : upd (upd H4 pn (.lst ((tbs.map (·.1)).map V.str ++ [.str t.1]))) P' (.tup [.str t.1, .ref b]) pm = some (.lst ms) := by
                              rw [upd_ne (ne_of_none h36 hP)]; exact h36
                            refine ⟨pm, _, _, rfl, rfl, h38, by rw [t3]; exact small1000 (by omega), ?_⟩
                            exact fin _ b (Kp.refl _) rb6 P' hP
            · rw [bP_f ht]
              refine iteT (iteT ?_)
              refine ⟨_, rfl, by simp, fun b hb => err_in hb fun dd hdd => bad ?_ dd hdd⟩
              rintro ⟨t, h', _⟩
              exact ht ⟨t, h'⟩
          · rintro σ H2 ⟨⟨v0, w0, rfl⟩, k2, tbs, ms, t1, t2, h2, h3, t3, t4⟩
            rw [el, List.take_length] at t1
            have kH : Kp [] H H2 := k1.trans k2
            have hp2 : H2 p = some (.ins C dx []) := kH.at_ _ _ hp (fun z => nomatch z)
            refine ⟨_, rfl, pm, _, rfl, .inl ⟨SqL.of h3, fun tt htt => ?_⟩⟩
            have pt : p ≠ tt := ne_of_none hp2 htt
            refine ⟨_, rfl, p, C, dx, [], rfl, by rw [upd_ne pt]; exact hp2, T.cl, T.nT, by show 0 < 1000; decide, ?_⟩
            refine kQ tbs _ ⟨ds, hrow, l1, l5, t1, t2⟩ (((kH.snoc htt).zero).trans (Kp.set (by rw [upd_ne pt]; exact hp2) (fun _ z => by cases z) (by simp))) ⟨dx, .ref tt, upd_same, ?_⟩
            have kf : Kp [p] H2 (upd (upd H2 tt (.tup ms)) p (.ins C dx (putF "tables" (.ref tt) []))) := (Kp.new htt).trans (Kp.set (by rw [upd_ne pt]; exact hp2) (fun _ z => by cases z) (by simp))
            refine .tup (by rw [upd_ne (Ne.symm pt), upd_same]) ⟨by rw [t3]; omega, _, by rw [upd_ne (Ne.symm pt), upd_same]⟩ (ImAll.kp kf t4)
      · cases hx1 with
        | @tup m a xs _ rx lx ax =>
          have el : xs.length = ds.length := ax.len
          have hrow : RowD (.tuple ds) ds := .inr rfl
          refine .inr ⟨_, rfl, a, xs, rfl, .inl (.inl (kk.tp _ _ rx)), ?_⟩
          refine for_it (walk_enumT (xs := xs)) (fun i σ H' => (∃ v w : Option V, σ = [some (.ref p), some (.ref a), some (.ref pn), some (.ref pm), v, w]) ∧ Kp [] H1 H' ∧ ∃ (tbs : List (Str × List Str)) (ms : List V), TabsD (ds.take i) tbs ∧ (tbs.map (·.1)).Nodup ∧ H' pn = some (.lst ((tbs.map (·.1)).map V.str)) ∧ H' pm = some (.lst ms) ∧ ms.length = i ∧ ImAll H' 2 ms (tbs.map dTab))
            ⟨⟨none, none, rfl⟩, kk, [], [], .nil, List.nodup_nil, by rw [upd_ne npm, upd_same]; rfl, upd_same, rfl, .nil⟩ (fun i σ H' _ ⟨_, k2, _⟩ => .inl (.inl (k2.tp _ _ rx))) ?_ ?_
          · rintro i v σ H2 H3 hi' ⟨⟨v0, w0, rfl⟩, k2, tbs, ms, t1, t2, h2, h3, t3, t4⟩ ⟨T, a1, y, rfl, hT, rfl, ea, ey⟩
            cases ea
            obtain ⟨dy, hdy, dt⟩ := ax.getV ey
            have k3 : Kp [] H1 (upd H2 T (.tup [.int (i : Nat), y])) := k2.snoc hT
            have Tpn : pn ≠ T := ne_of_none h2 hT
            have Tpm : pm ≠ T := ne_of_none h3 hT
            refine ⟨T, _, rfl, SqT.of upd_same, rfl, _, _, rfl, _, _, rfl, rfl, ?_⟩
            refine ⟨_, rfl, _, q, m, y, dy, rfl, dt.keep k3, fun H4 k4 => ⟨_, rfl, ?_⟩⟩
            have k5 : Kp [] H1 H4 := k3.trans k4
            have h2' : H4 pn = some (.lst ((tbs.map (·.1)).map V.str)) := k4.at_ _ _ (by rw [upd_ne Tpn]; exact h2) (fun z => nomatch z)
            have h3' : H4 pm = some (.lst ms) := k4.at_ _ _ (by rw [upd_ne Tpm]; exact h3) (fun z => nomatch z)
            have t4' : ImAll H4 2 ms (tbs.map dTab) := ImAll.kp ((Kp.new (ms := []) hT).trans k4) t4
            have bad : (¬ ∃ t, TabD dy t ∧ t.1 ∉ tbs.map (·.1)) → ∀ (dd : Addr), H4 dd = none → E (.ref CE) (some dd) (upd H4 dd (.xd [("at", .int ((i : Nat) : Int))])) := fun hb dd hdd => by
              have kH : Kp [] H H4 := k1.trans k5
              refine kE i dd _ (.inr ⟨ds, i, dy, tbs, hrow, l1, l5, rfl, hdy, t1, t2, hb⟩) (kH.snoc hdd) (kH.same.free hdd) upd_same
            by_cases ht : ∃ t, TabD dy t
            · rw [bP_t ht]
              refine iteF ?_
              obtain ⟨t, e, rfl, nt, ne⟩ := ht
              have dt' := dt.keep k5
              cases dt' with
              | @tup m' a' ys _ ry ly ay =>
                cases ay with
                | @cons _ y0 _ _ _ a0 ay =>
                  cases ay with
                  | @cons _ y1 _ _ _ a1 ay =>
                    cases ay
                    cases a0 with
                    | str _ hz =>
                      refine ⟨_, rfl, a', _, _, .str t.1, rfl, rfl, .inl (.inl ry), rfl, _, rfl, pn, _, rfl, .inl (SqL.of h2'), rfl, flat_strs _, _, rfl, ?_⟩
                      rw [inV_strs]
                      by_cases hm : t.1 ∈ tbs.map (·.1)
                      · rw [decide_eq_true hm]
                        refine iteT ?_
                        refine ⟨_, rfl, by simp, fun b hb => err_in hb fun dd hdd => bad ?_ dd hdd⟩
                        rintro ⟨t', h', hn'⟩
                        have := TabD.inj h' (show TabD (.tuple [.str t.1, e]) t from ⟨e, rfl, nt, ne⟩)
                        rw [this] at hn'
                        exact hn' hm
                      · rw [decide_eq_false hm]
                        refine iteF ?_
                        -- names.append(table[0])
                        have lt5 : i < 5 := by omega
                        have ltb : tbs.length = i := by
                          have := t1.len
                          rw [List.length_take] at this
                          omega
                        refine ⟨_, rfl, .inl ⟨rfl, _, SqL.of h2'⟩, _, rfl, a', _, _, .str t.1, rfl, rfl, .inl (.inl ry), rfl, pn, _, _, rfl, rfl, h2', by rw [List.length_map, List.length_map, ltb]; exact small1000 (by omega), ?_⟩
                        have npn : H1 pn = none := hn
                        have k6 : Kp [] H1 (upd H4 pn (.lst ((tbs.map (·.1)).map V.str ++ [.str t.1]))) := k5.late npn
                        have ry6 : ((upd H4 pn (.lst ((tbs.map (·.1)).map V.str ++ [.str t.1])))) a' = some (.tup [.str t.1, y1]) := (Kp.updL (ms := [pn]) h2' (by simp)).tp _ _ ry
                        have h36 : upd H4 pn (.lst ((tbs.map (·.1)).map V.str ++ [.str t.1])) pm = some (.lst ms) := by rw [upd_ne (Ne.symm npm)]; exact h3'
                        -- made.append((table[0], tuple(table[1])))
                        refine ⟨_, rfl, .inl ⟨rfl, _, SqL.of h36⟩, _, rfl, a', _, _, .str t.1, rfl, rfl, .inl (.inl ry6), rfl, _, rfl, a', _, _, y1, rfl, rfl, .inl (.inl ry6), rfl, ?_⟩
                        have fin : ∀ (H7 : Hp) (u : Addr), Kp [] (upd H4 pn (.lst ((tbs.map (·.1)).map V.str ++ [.str t.1]))) H7 → H7 u = some (.tup (t.2.map V.str)) → ∀ P', H7 P' = none →
                            (∃ v w : Option V, ([some (.ref p), some (.ref a), some (.ref pn), some (.ref pm), some (.int (i : Nat)), some (.ref a')] : L2.St) = [some (.ref p), some (.ref a), some (.ref pn), some (.ref pm), v, w]) ∧
                            Kp [] H1 (upd (upd H7 P' (.tup [.str t.1, .ref u])) pm (.lst (ms ++ [.ref P']))) ∧ ∃ (tbs : List (Str × List Str)) (ms' : List V), TabsD (ds.take (i + 1)) tbs ∧ (tbs.map (·.1)).Nodup ∧
                              upd (upd H7 P' (.tup [.str t.1, .ref u])) pm (.lst (ms ++ [.ref P'])) pn = some (.lst ((tbs.map (·.1)).map V.str)) ∧ upd (upd H7 P' (.tup [.str t.1, .ref u])) pm (.lst (ms ++ [.ref P'])) pm = some (.lst ms') ∧ ms'.length = i + 1 ∧ ImAll (upd (upd H7 P' (.tup [.str t.1, .ref u])) pm (.lst (ms ++ [.ref P']))) 2 ms' (tbs.map dTab) := by
                          intro H7 u k7 hu P' hP
                          have h37 : H7 pm = some (.lst ms) := k7.at_ _ _ h36 (fun z => nomatch z)
                          have k8 : Kp [pm] H7 (upd (upd H7 P' (.tup [.str t.1, .ref u])) pm (.lst (ms ++ [.ref P']))) := (Kp.new hP).trans (Kp.updL (by rw [upd_ne (ne_of_none h37 hP)]; exact h37) (by simp))
                          have hn7 : H7 pn = some (.lst ((tbs.map (·.1)).map V.str ++ [.str t.1])) := k7.at_ _ _ upd_same (fun z => nomatch z)
                          have uP : u ≠ P' := ne_of_none hu hP
                          have pP : P' ≠ pm := Ne.symm (ne_of_none h37 hP)
                          have hl2 := ne.2.2.2.2
                          have upm : u ≠ pm := fun z => by rw [z, h37] at hu; cases hu
                          refine ⟨⟨_, _, rfl⟩, ((k6.trans k7).snoc hP).late hm1, tbs ++ [t], ms ++ [.ref P'], ?_, ?_, ?_, upd_same, by simp [t3], ?_⟩
                          · rw [take_snoc hdy]; exact t1.snoc ⟨e, rfl, nt, ne⟩
                          · rw [List.map_append]; exact nd_snoc t2 hm
                          · rw [upd_ne npm, upd_ne (ne_of_none hn7 hP), hn7]; simp
                          · rw [List.map_append]
                            have km : Kp [pn, pm] H4 (upd (upd H7 P' (.tup [.str t.1, .ref u])) pm (.lst (ms ++ [.ref P']))) := ((Kp.updL h2' (by simp)).trans k7.zero).trans (k8.mono (by simp))
                            refine DtAll.append (ImAll.kp km t4') (.cons ?_ .nil)
                            refine .tup (by rw [upd_ne pP, upd_same]) ⟨by simp, _, by rw [upd_ne pP, upd_same]⟩ (.cons (.str _ hz) (.cons (.tup (by rw [upd_ne upm, upd_ne uP]; exact hu) ⟨by rw [List.length_map]; omega, _, by rw [upd_ne upm, upd_ne uP]; exact hu⟩ ?_) .nil))
                            exact dtAll_strs fun w' hw' => Nat.le_trans (ne.2.1 w' hw').2.1 (by decide)
                        rcases ne.1 with e1 | e1 <;> subst e1
                        · cases a1 with
                          | @lst _ b zs _ rb lb ab =>
                            have ez := DtAll.strs ab
                            subst ez
                            have rb6 : Rd (upd H4 pn (.lst ((tbs.map (·.1)).map V.str ++ [.str t.1]))) b (.lst (t.2.map V.str)) := (Kp.updL (ms := [pn]) h2' (by simp)).rd (by
                              intro z
                              have e' : b = pn := by simpa using z
                              exact lb.2.2 (by rw [e']; exact hn)) rb
                            refine ⟨b, _, rfl, .inl ⟨.inl rb6, fun u hu => ⟨by show 2 ≤ sizeLine; decide, fun P' hP => ?_⟩⟩⟩
                            have h38 : upd (upd (upd H4 pn (.lst ((tbs.map (·.1)).map V.str ++ [.str t.1]))) u (.tup (t.2.map V.str))) P' (.tup [.str t.1, .ref u]) pm = some (.lst ms) := by
                              have x1 : pm ≠ u := ne_of_none h36 hu
                              have x2 : pm ≠ P' := ne_of_none (by rw [upd_ne x1]; exact h36) hP
                              rw [upd_ne x2, upd_ne x1]; exact h36
                            refine ⟨pm, _, _, rfl, rfl, h38, by rw [t3]; exact small1000 (by omega), ?_⟩
                            exact fin _ u (Kp.new hu) upd_same P' hP
                        · cases a1 with
                          | @tup _ b zs _ rb lb ab =>
                            have ez := DtAll.strs ab
                            subst ez
                            have rb6 : ((upd H4 pn (.lst ((tbs.map (·.1)).map V.str ++ [.str t.1])))) b = some (.tup (t.2.map V.str)) := (Kp.updL (ms := [pn]) h2' (by simp)).tp _ _ rb
                            refine ⟨b, _, rfl, .inr ⟨.inl (.inl rb6), by show 2 ≤ sizeLine; decide, fun P' hP => ?_⟩⟩
                            have h38 : upd (upd H4 pn (.lst ((tbs.map (·.1)).map V.str ++ [.str t.1]))) P' (.tup [.str t.1, .ref b]) pm = some (.lst ms) := by
                              rw [upd_ne (ne_of_none h36 hP)]; exact h36
                            refine ⟨pm, _, _, rfl, rfl, h38, by rw [t3]; exact small1000 (by omega), ?_⟩
                            exact fin _ b (Kp.refl _) rb6 P' hP
            · rw [bP_f ht]
              refine iteT (iteT ?_)
              refine ⟨_, rfl, by simp, fun b hb => err_in hb fun dd hdd => bad ?_ dd hdd⟩
              rintro ⟨t, h', _⟩
              exact ht ⟨t, h'⟩
          · rintro σ H2 ⟨⟨v0, w0, rfl⟩, k2, tbs, ms, t1, t2, h2, h3, t3, t4⟩
            rw [el, List.take_length] at t1
            have kH : Kp [] H H2 := k1.trans k2
            have hp2 : H2 p = some (.ins C dx []) := kH.at_ _ _ hp (fun z => nomatch z)
            refine ⟨_, rfl, pm, _, rfl, .inl ⟨SqL.of h3, fun tt htt => ?_⟩⟩
            have pt : p ≠ tt := ne_of_none hp2 htt
            refine ⟨_, rfl, p, C, dx, [], rfl, by rw [upd_ne pt]; exact hp2, T.cl, T.nT, by show 0 < 1000; decide, ?_⟩
            refine kQ tbs _ ⟨ds, hrow, l1, l5, t1, t2⟩ (((kH.snoc htt).zero).trans (Kp.set (by rw [upd_ne pt]; exact hp2) (fun _ z => by cases z) (by simp))) ⟨dx, .ref tt, upd_same, ?_⟩
            have kf : Kp [p] H2 (upd (upd H2 tt (.tup ms)) p (.ins C dx (putF "tables" (.ref tt) []))) := (Kp.new htt).trans (Kp.set (by rw [upd_ne pt]; exact hp2) (fun _ z => by cases z) (by simp))
            refine .tup (by rw [upd_ne (Ne.symm pt), upd_same]) ⟨by rw [t3]; omega, _, by rw [upd_ne (Ne.symm pt), upd_same]⟩ (ImAll.kp kf t4)
end
end Fm

namespace Fm
open PySem PySem.Spec PyProof.Rows L2
/-! ### tables as data: equal as Python sees them -/
def GoodT (t : Str × List Str) : Prop := IsNm t.1 ∧ (∀ w ∈ t.2, IsNm w) ∧ t.2.Nodup ∧ 1 ≤ t.2.length ∧ t.2.length ≤ 4
def GoodTs (tbs : List (Str × List Str)) : Prop := (∀ t ∈ tbs, GoodT t) ∧ (tbs.map (·.1)).Nodup ∧ 1 ≤ tbs.length ∧ tbs.length ≤ 5
theorem TabD.good {d : PyData} {t : Str × List Str} (h : TabD d t) : GoodT t := by
  obtain ⟨e, _, n, m⟩ := h
  exact ⟨n, m.2.1, m.2.2.1, m.2.2.2.1, m.2.2.2.2⟩
theorem TabsD.good : ∀ {ds : List PyData} {ts : List (Str × List Str)}, TabsD ds ts → ∀ t ∈ ts, GoodT t
  | _, _, .cons a b, t, h => by
    rcases List.mem_cons.mp h with rfl | h
    · exact a.good
    · exact b.good t h
theorem ShpD.good {d : PyData} {ts : List (Str × List Str)} (h : ShpD d ts) : GoodTs ts := by
  obtain ⟨ds, _, l1, l5, t1, t2⟩ := h
  exact ⟨t1.good, t2, by rw [← t1.len]; exact l1, by rw [← t1.len]; exact l5⟩
theorem eqv_strs : ∀ ws vs : List Str, PyData.eqvAll (ws.map .str) (vs.map .str) = decide (ws = vs)
  | [], [] => by simp [PyData.eqvAll]
  | [], _ :: _ => by simp [PyData.eqvAll]
  | _ :: _, [] => by simp [PyData.eqvAll]
  | w :: ws, v :: vs => by
    simp only [List.map_cons, PyData.eqvAll, PyData.eqv, eqv_strs ws vs]
    by_cases h : w = v
    · subst h; simp
    · simp [h]
theorem eqv_tab (t u : Str × List Str) : PyData.eqv (dTab t) (dTab u) = decide (t = u) := by
  simp only [dTab, PyData.eqv, PyData.eqvAll, eqv_strs]
  by_cases h : t.1 = u.1
  · by_cases h' : t.2 = u.2
    · have : t = u := Prod.ext h h'
      subst this; simp
    · have : t ≠ u := fun z => h' (by rw [z])
      simp [h', this]
  · have : t ≠ u := fun z => h (by rw [z])
    simp [h, this]
theorem eqv_tabsL : ∀ ts us : List (Str × List Str), PyData.eqvAll (ts.map dTab) (us.map dTab) = decide (ts = us)
  | [], [] => by simp [PyData.eqvAll]
  | [], _ :: _ => by simp [PyData.eqvAll]
  | _ :: _, [] => by simp [PyData.eqvAll]
  | t :: ts, u :: us => by
    simp only [List.map_cons, PyData.eqvAll, eqv_tab, eqv_tabsL ts us]
    by_cases h : t = u
    · subst h; simp
    · simp [h]
theorem eqv_tabs (ts us : List (Str × List Str)) : PyData.eqv (dTabs ts) (dTabs us) = decide (ts = us) := by
  simp only [dTabs, PyData.eqv, eqv_tabsL]
theorem strOk_nm {w : Str} (h : IsNm w) : PyData.strOk w = true := by
  unfold PyData.strOk
  rw [Array.all_eq_true']
  intro c hc
  have := h.2.2 c (by simpa using hc)
  simp
  omega
theorem lay_strs : ∀ {ws : List Str}, (∀ w ∈ ws, IsNm w) → PyData.canLayAll0 (ws.map .str) = true
  | [], _ => by simp [PyData.canLayAll0]
  | w :: ws, h => by
    simp only [List.map_cons, PyData.canLayAll0, PyData.canLay0, strOk_nm (h w List.mem_cons_self), lay_strs fun x hx => h x (List.mem_cons_of_mem _ hx), Bool.and_self]
theorem lay_tabs : ∀ {ts : List (Str × List Str)}, (∀ t ∈ ts, GoodT t) → PyData.canLayAll0 (ts.map dTab) = true
  | [], _ => by simp [PyData.canLayAll0]
  | t :: ts, h => by
    have g := h t List.mem_cons_self
    simp only [List.map_cons, PyData.canLayAll0, dTab, PyData.canLay0, strOk_nm g.1, lay_strs g.2.1, lay_tabs fun x hx => h x (List.mem_cons_of_mem _ hx), Bool.and_self]
theorem dep_strs : ∀ ws : List Str, PyData.depthAll (ws.map .str) = 0
  | [] => by simp [PyData.depthAll]
  | w :: ws => by simp [PyData.depthAll, PyData.depth, dep_strs ws]
theorem dep_tabs : ∀ ts : List (Str × List Str), PyData.depthAll (ts.map dTab) ≤ 2
  | [] => by simp [PyData.depthAll]
  | t :: ts => by
    have := dep_tabs ts
    simp only [List.map_cons, PyData.depthAll, dTab, PyData.depth, dep_strs]
    omega
theorem shaped_tabs {ts : List (Str × List Str)} (h : ∀ t ∈ ts, GoodT t) : SeqAt.shaped (dTabs ts) = true := by
  have := dep_tabs ts
  unfold SeqAt.shaped
  simp only [dTabs, PyData.canLay0, PyData.depth, lay_tabs h, Bool.true_and, decide_eq_true_eq]
  omega
mutual
theorem Dt.dp {S : Addr → Prop} {q : Bool} {H : Hp} {K : PySem.W.Frag} : ∀ {n : Nat} {v : V} {d : PyData}, Dt S q H n v d → d.canLay0 = true → Dp K H v d
  | _, _, _, .non, _ => .non
  | _, _, _, .bl b, _ => .bl b
  | _, _, _, .int b, _ => .int b
  | _, _, _, .str b h, _ => .str b
  | _, _, _, .lst r l a, h => .lst (.inl r) (DtAll.dp a (by simpa [PyData.canLay0] using h))
  | _, _, _, .tup r l a, h => .tup (.inl (.inl r)) (DtAll.dp a (by simpa [PyData.canLay0] using h))
  | _, _, _, .dic r l a, h => by simp [PyData.canLay0] at h
theorem DtAll.dp {S : Addr → Prop} {q : Bool} {H : Hp} {K : PySem.W.Frag} : ∀ {n : Nat} {v : List V} {d : List PyData}, DtAll S q H n v d → PyData.canLayAll0 d = true → DpAll K H v d
  | _, _, _, .nil, _ => .nil
  | _, _, _, .cons a b, h => by
    have h' := Bool.and_eq_true_iff.mp (show (_ && _) = true by simpa only [PyData.canLayAll0] using h)
    exact .cons (Dt.dp a h'.1) (DtAll.dp b h'.2)
end
theorem lay_dTabs {ts : List (Str × List Str)} (h : ∀ t ∈ ts, GoodT t) : (dTabs ts).canLay0 = true := by
  simp only [dTabs, PyData.canLay0, lay_tabs h]
/-- an instance's class, as isinstance asks of it -/
structure InsX (K : PySem.W.Frag) (C : Addr) : Prop where
  cl : Cls K C
  ha : PySem.W.findIn K (.ref C) "__class__" = some (some (.builtin "object.__class__"))
  hn : PySem.W.specialIn K (.builtin "object.__class__") "__get__" = some (some (.builtin "getset_descriptor.__get__"))
  htk : PySem.W.takesIn K (.builtin "object.__class__") = some true
  hm : PySem.W.mroIn K C (.type "object") = some true
  dat : ∀ T ∈ ["NoneType", "bool", "int", "str", "list", "tuple", "dict"], PySem.W.kitOne K (.type T) (.ref C) = some false
theorem InsX.ty {K : PySem.W.Frag} {C : Addr} (T : InsX K C) {H : Hp} {a dx : Addr} {fs : List (Str × V)} (e : H a = some (.ins C dx fs)) : TyX K H (.ref a) (.ref C) := .base (.ins e T.cl T.ha T.hn T.htk T.hm)
theorem InsX.datD {K : PySem.W.Frag} {C : Addr} (T : InsX K C) (d : PyData) : PySem.W.kitOne K (.type (tyS d)) (.ref C) = some false := T.dat _ (by cases d <;> simp [tyS])
theorem kit_self {K : PySem.W.Frag} {C : Addr} : PySem.W.kitOne K (.ref C) (.ref C) = some true := by
  unfold PySem.W.kitOne
  rw [if_pos (by simp)]
def spShEq (C : Addr) : Sp := fun vs H Q _ => ∃ (p : Addr) (y : V) (tbs : List (Str × List Str)), vs = [.ref p, y] ∧ ShapeAt C H p tbs ∧ (∀ t ∈ tbs, GoodT t) ∧
  ((∃ p' us, y = .ref p' ∧ ShapeAt C H p' us ∧ (∀ t ∈ us, GoodT t) ∧ Q (.bl (decide (tbs = us))) H) ∨ ∃ S q n d, Dt S q H n y d ∧ Q (.bl false) H)
def spFields (C CE : Addr) : Sp := fun vs H Q E => ∃ (p : Addr) (S : Addr → Prop) (q : Bool) (n : Nat) (x : V) (d : PyData) (tbs : List (Str × List Str)), vs = [.ref p, x] ∧ ShapeAt C H p tbs ∧ (tbs.map (·.1)).Nodup ∧ Dt S q H n x d ∧
  (∀ t ∈ tbs, d = .str t.1 → ∀ a : Addr, Im H 2 (.ref a) (.tuple (t.2.map .str)) → Q (.ref a) H) ∧
  ((∀ t ∈ tbs, d ≠ .str t.1) → ∀ (dd : Addr) (H' : Hp), Kp [] H H' → H dd = none → H' dd = some (.xd [("value", x)]) → E (.ref CE) (some dd) H')
theorem Im.tab {H : Hp} {n : Nat} {v : V} {t : Str × List Str} (h : Im H (n + 2) v (dTab t)) : ∃ a b, v = .ref a ∧ H a = some (.tup [.str t.1, .ref b]) ∧ Im H (n + 1) (.ref b) (.tuple (t.2.map .str)) := by
  cases h with
  | tup r l a =>
    cases a with
    | cons a0 a =>
      cases a with
      | cons a1 a =>
        cases a
        cases a0
        cases id a1 with
        | tup r1 l1 a11 => exact ⟨_, _, rfl, r, a1⟩
end Fm

namespace Fm
open PySem PySem.Spec PyProof.Rows L2
theorem Kp.via {ms ms' : List Addr} {H H1 H2 : Hp} (k1 : Kp ms H H1) (k2 : Kp ms' H1 H2) (h : ∀ x ∈ ms', x ∈ ms ∨ H x = none) : Kp ms H H2 := by
  refine ⟨fun a o e n => k2.at_ a o (k1.at_ a o e n) fun z => ?_, fun a xs e => k2.tp a xs (k1.tp a xs e)⟩
  rcases h a z with h | h
  · exact n h
  · rw [h] at e
    cases e
theorem Bag.new {H : Hp} {b c p : Addr} (B : Bag H b c) (h : H p = none) : p ≠ b ∧ p ≠ c := by
  obtain ⟨o, ho⟩ := B.someB
  obtain ⟨o', ho'⟩ := B.someC
  refine ⟨fun z => ?_, fun z => ?_⟩
  · rw [← z, h] at ho
    cases ho
  · rw [← z, h] at ho'
    cases ho'
def spTables : Sp := fun vs H Q _ => ∃ (b c : Addr), vs = [.ref b] ∧ Bag H b c ∧ ∀ (t : Addr) (xs : List V) (tbs : List (Str × List Str)) (H' : Hp), Bag H' b c → Kp [b] H H' → H t = none → H' t = some (.lst xs) → ImAll H' 2 xs (tbs.map dTab) → GoodTs tbs → Q (.ref t) H'
theorem five : ∀ n : Nat, n < 5 → ∃ k : Nat, ([V.int 2, V.int 1, V.int 2, V.int 3, V.int 5] : List V)[n]? = some (.int k) ∧ 1 ≤ k ∧ k ≤ 5
  | 0, _ => ⟨2, rfl, by decide, by decide⟩
  | 1, _ => ⟨1, rfl, by decide, by decide⟩
  | 2, _ => ⟨2, rfl, by decide, by decide⟩
  | 3, _ => ⟨3, rfl, by decide, by decide⟩
  | 4, _ => ⟨5, rfl, by decide, by decide⟩
  | n + 5, h => absurd h (by omega)
section
variable {P : Program} {w : World} {K : PySem.W.Frag} {mg : Str → Option Value} {base : Heap}
theorem ok_tables (B : Bi mg) (D : Dfn K mg "_law_tables" s__law_tables ["_law_bag_here"]) (G_pick : Has P w K mg base CX0 "_law_pick" ["_law_bag_here", "_law_many"] 1 spPick) (G_name : Has P w K mg base CX0 "_law_name" ["_law_bag_here", "_law_taken"] 2 spName) :
    Has P w K mg base CX0 "_law_tables" ["_law_bag_here"] 3 spTables := by
  refine D.has sc__law_tables (fun vs H Q E h => ?_) (fun f cdv A outer s H vs Q E hr h => ?_)
  · obtain ⟨b, c, rfl, _⟩ := h; rfl
  · obtain ⟨b, c, rfl, BG, k⟩ := h
    have hr1 : Room 1 _ := hr.mono (by decide)
    refine ⟨_, (pss_cons (ps_set (i := 1) sc__law_tables.nd rfl (by first | exact Or.inl rfl | exact Or.inr rfl) (pe_lst pa_nil))
  (pss_cons (ps_set (i := 2) sc__law_tables.nd rfl (by first | exact Or.inl rfl | exact Or.inr rfl) (pe_lst pa_nil))
  (pss_cons (ps_for PassesOwn.never rfl (pi_range1 rfl B.range (pa_cons (pe_ix ix_list (pe_lst (pa_cons pe_int (pa_cons pe_int (pa_cons pe_int (pa_cons pe_int (pa_cons pe_int pa_nil)))))) (pe_has G_pick hr1 (pa_cons (pv 0) (pa_cons pe_int pa_nil))) (fun _ _ => rfl)) pa_nil)) (pg_name (i := 3) sc__law_tables.nd rfl (by first | exact Or.inl rfl | exact Or.inr rfl))
  (pss_cons (ps_set (i := 4) sc__law_tables.nd rfl (by first | exact Or.inl rfl | exact Or.inr rfl) (pe_has G_name hr (pa_cons (pv 0) (pa_cons (pv 1) pa_nil))))
  (pss_cons (ps_set (i := 5) sc__law_tables.nd rfl (by first | exact Or.inl rfl | exact Or.inr rfl) (pe_lst pa_nil))
  (pss_cons (ps_for PassesOwn.never rfl (pi_range1 rfl B.range (pa_cons (pe_op op_add pe_int (pe_has G_pick hr1 (pa_cons (pv 0) (pa_cons pe_int pa_nil)))) pa_nil)) (pg_name (i := 6) sc__law_tables.nd rfl (by first | exact Or.inl rfl | exact Or.inr rfl))
  (pss_one (ps_expr (pe_has G_name hr (pa_cons (pv 0) (pa_cons (pv 5) pa_nil))))))
  (pss_one (ps_expr (pe_bm PySem.F.plainAttrs_list PySem.F.slot_list_append PySem.F.type_list_append mt_append (pv 2) (pa_cons (pe_tup (pa_cons (pv 4) (pa_cons (pe_callTy call_tuple_of (by rfl) B.tuple (by decide +kernel) (pa_cons (pv 5) pa_nil)) pa_nil))) pa_nil))))))))
  (pss_one (ps_ret (pv 2)))))), ?_⟩
    refine ⟨by show 0 ≤ sizeLine; decide, fun pt npt => ⟨by show 0 ≤ sizeLine; decide, fun pl npl => ⟨by show 5 ≤ sizeLine; decide, fun p5 np5 => ?_⟩⟩⟩
    have tl : pt ≠ pl := fun z => by rw [← z, upd_same] at npl; cases npl
    have hpl : H pl = none := by rw [upd_ne (Ne.symm tl)] at npl; exact npl
    have k0 : Kp [] H (upd (upd (upd H pt (.lst [])) pl (.lst [])) p5 (.lst [.int 2, .int 1, .int 2, .int 3, .int 5])) := ((Kp.new npt).snoc npl).snoc np5
    have e1 : upd (upd (upd H pt (.lst [])) pl (.lst [])) p5 (.lst [.int 2, .int 1, .int 2, .int 3, .int 5]) pt = some (.lst []) := by
      have x1 : pt ≠ p5 := fun z => by rw [← z, upd_ne tl, upd_same] at np5; cases np5
      rw [upd_ne x1, upd_ne tl, upd_same]
    have e2 : upd (upd (upd H pt (.lst [])) pl (.lst [])) p5 (.lst [.int 2, .int 1, .int 2, .int 3, .int 5]) pl = some (.lst []) := by
      have x1 : pl ≠ p5 := fun z => by rw [← z, upd_same] at np5; cases np5
      rw [upd_ne x1, upd_same]
    have e3 : upd (upd (upd H pt (.lst [])) pl (.lst [])) p5 (.lst [.int 2, .int 1, .int 2, .int 3, .int 5]) p5 = some (.lst [.int 2, .int 1, .int 2, .int 3, .int 5]) := upd_same
    obtain ⟨tb, tc⟩ := BG.new npt
    obtain ⟨lb, lc⟩ := BG.new hpl
    refine ⟨_, rfl, b, c, 5, rfl, BG.keep0 k0, by decide, by decide, fun r H1 r0 r1 B1 k1 => ?_⟩
    have p5b : p5 ≠ b := (BG.keep0 ((Kp.new npt).snoc npl) |>.new np5).1
    have f1 : H1 pt = some (.lst []) := k1.at_ _ _ e1 (by simpa using tb)
    have f2 : H1 pl = some (.lst []) := k1.at_ _ _ e2 (by simpa using lb)
    have f3 : H1 p5 = _ := k1.at_ _ _ e3 (by simpa using p5b)
    have kH1 : Kp [b] H H1 := k0.zero.trans k1
    obtain ⟨kk, hk, kk1, kk5⟩ := five r.toNat (by omega)
    refine ⟨p5, _, r, .int kk, rfl, rfl, SqL.of f3, atI_of r0 hk, (kk : Int), rfl, by omega, by omega, ?_⟩
    refine for_range (lo := 0) (n := (kk : Int).toNat) (fun i σ H' => (∃ v3 v4 v5 v6 : Option V, σ = [some (.ref b), some (.ref pt), some (.ref pl), v3, v4, v5, v6]) ∧ Bag H' b c ∧ Kp [b] H H' ∧
        ∃ (tbs : List (Str × List Str)) (xs : List V), tbs.length = i ∧ H' pt = some (.lst ((tbs.map (·.1)).map V.str)) ∧ H' pl = some (.lst xs) ∧ xs.length = i ∧ ImAll H' 2 xs (tbs.map dTab) ∧ (∀ t ∈ tbs, GoodT t) ∧ (tbs.map (·.1)).Nodup)
      ⟨⟨none, none, none, none, rfl⟩, B1, kH1, [], [], rfl, f1, f2, rfl, .nil, (fun t h => nomatch h), List.nodup_nil⟩ ?_ ?_
    · rintro i σ H2 hi ⟨⟨v3, v4, v5, v6, rfl⟩, B2, k2, tbs, xs, t1, t2, t3, t4, t5, t6, t7⟩
      have hi5 : i < 5 := by omega
      refine ⟨_, rfl, _, rfl, b, c, pt, tbs.map (·.1), rfl, B2, t2, tb, tc, by rw [List.length_map]; omega, fun w1 H3 n1 nm1 B3 h3 k3 => ?_⟩
      have k3' : Kp [b] H H3 := k2.via k3 (by simp [npt])
      have lt : pl ∉ [b, pt] := by simp [lb, Ne.symm tl]
      have g3 : H3 pl = some (.lst xs) := k3.at_ _ _ t3 lt
      have i3 : ImAll H3 2 xs (tbs.map dTab) := ImAll.kp k3 t5
      refine ⟨by show 0 ≤ sizeLine; decide, fun pf npf => ?_⟩
      obtain ⟨fb, fc⟩ := B3.new npf
      have ft : pf ≠ pt := Ne.symm (ne_of_none h3 npf)
      have fl : pf ≠ pl := Ne.symm (ne_of_none g3 npf)
      have hpf : H pf = none := k3'.freeB B3 npf
      have k4 : Kp [b] H (upd H3 pf (.lst [])) := k3'.snoc npf
      refine ⟨_, rfl, b, c, 4, rfl, B3.keep0 (Kp.new npf), by decide, by decide, fun r4 H4 r40 r41 B4 k4' => ?_⟩
      have h4 : H4 pt = some (.lst ((tbs.map (·.1) ++ [w1]).map V.str)) := k4'.at_ _ _ (by rw [upd_ne (Ne.symm ft)]; exact h3) (by simpa using tb)
      have g4 : H4 pl = some (.lst xs) := k4'.at_ _ _ (by rw [upd_ne (Ne.symm fl)]; exact g3) (by simpa using lb)
      have f4 : H4 pf = some (.lst []) := k4'.at_ _ _ upd_same (by simpa using fb)
      have i4 : ImAll H4 2 xs (tbs.map dTab) := ImAll.kp k4' (ImAll.kp (Kp.new (ms := []) npf) i3)
      have k5 : Kp [b] H H4 := k4.trans k4'
      refine ⟨_, _, rfl, rfl, 1 + r4, rfl, by omega, by omega, ?_⟩
      refine for_range (lo := 0) (n := (1 + r4).toNat) (fun j σ H' => (∃ v6 : Option V, σ = [some (.ref b), some (.ref pt), some (.ref pl), some (.int (0 + (i : Int))), some (.str w1), some (.ref pf), v6]) ∧ Bag H' b c ∧ Kp [b] H H' ∧
          H' pt = some (.lst ((tbs.map (·.1) ++ [w1]).map V.str)) ∧ H' pl = some (.lst xs) ∧ ImAll H' 2 xs (tbs.map dTab) ∧ ∃ ws : List Str, ws.length = j ∧ H' pf = some (.lst (ws.map V.str)) ∧ (∀ w ∈ ws, IsNm w) ∧ ws.Nodup)
        ⟨⟨v6, rfl⟩, B4, k5, h4, g4, i4, [], rfl, f4, (fun w h => nomatch h), List.nodup_nil⟩ ?_ ?_
      · rintro j σ H5 hj ⟨⟨v6, rfl⟩, B5, k5', a1, a2, a3, ws, w1', w2, w3, w4⟩
        refine ⟨_, rfl, _, rfl, b, c, pf, ws, rfl, B5, w2, fb, fc, by omega, fun y H6 ny nmy B6 h6 k6 => ?_⟩
        have n1' : pt ∉ [b, pf] := by simp [tb, Ne.symm ft]
        have n2' : pl ∉ [b, pf] := by simp [lb, Ne.symm fl]
        refine ⟨⟨_, rfl⟩, B6, k5'.via k6 (by simp [hpf]), k6.at_ _ _ a1 n1', k6.at_ _ _ a2 n2', ImAll.kp k6 a3, ws ++ [y], by simp [w1'], h6, fun z hz => ?_, nd_snoc w4 nmy⟩
        rcases List.mem_append.mp hz with h | h
        · exact w3 z h
        · rw [List.mem_singleton.mp h]; exact ny
      · rintro σ H5 ⟨⟨v6, rfl⟩, B5, k5', a1, a2, a3, ws, w1', w2, w3, w4⟩
        refine ⟨_, rfl, .inl ⟨rfl, _, SqL.of a2⟩, _, rfl, _, rfl, pf, _, rfl, .inl ⟨SqL.of w2, fun u nu => ⟨by show 2 ≤ sizeLine; decide, fun q nq => ?_⟩⟩⟩
        have k6 : Kp [] H5 (upd (upd H5 u (.tup (ws.map V.str))) q (.tup [.str w1, .ref u])) := (Kp.new nu).snoc nq
        have a2' := k6.at_ _ _ a2 (fun z => nomatch z)
        refine ⟨pl, _, _, rfl, rfl, a2', by rw [t4]; exact small1000 (by omega), ?_⟩
        have k7 : Kp [pl] H5 (upd (upd (upd H5 u (.tup (ws.map V.str))) q (.tup [.str w1, .ref u])) pl (.lst (xs ++ [.ref q]))) := k6.zero.trans (Kp.updL a2' (by simp))
        have uq : u ≠ q := fun z => by rw [← z, upd_same] at nq; cases nq
        have ul : u ≠ pl := Ne.symm (ne_of_none a2 nu)
        have ql : q ≠ pl := fun z => by
          rw [z, upd_ne (Ne.symm ul), a2] at nq; cases nq
        refine ⟨⟨_, _, _, _, rfl⟩, B5.keep k7 (by simpa using Ne.symm lb) (by simpa using Ne.symm lc), k5'.via k7 (by simp [hpl]), tbs ++ [(w1, ws)], xs ++ [.ref q], by simp [t1], ?_, upd_same, by simp [t4], ?_, ?_, ?_⟩
        · have := k7.at_ _ _ a1 (by simpa using tl)
          rw [this]; simp
        · rw [List.map_append]
          refine DtAll.append (ImAll.kp k7 a3) (.cons ?_ .nil)
          have hu' : upd (upd (upd H5 u (.tup (ws.map V.str))) q (.tup [.str w1, .ref u])) pl (.lst (xs ++ [.ref q])) u = some (.tup (ws.map V.str)) := by rw [upd_ne ul, upd_ne uq, upd_same]
          have hq' : upd (upd (upd H5 u (.tup (ws.map V.str))) q (.tup [.str w1, .ref u])) pl (.lst (xs ++ [.ref q])) q = some (.tup [.str w1, .ref u]) := by rw [upd_ne ql, upd_same]
          exact .tup hq' ⟨by simp, _, hq'⟩ (.cons (.str _ (Nat.le_trans n1.2.1 (by decide))) (.cons (.tup hu' ⟨by rw [List.length_map]; omega, _, hu'⟩ (dtAll_strs fun w' hw' => Nat.le_trans (w3 w' hw').2.1 (by decide))) .nil))
        · intro t ht
          rcases List.mem_append.mp ht with h | h
          · exact t6 t h
          · rw [List.mem_singleton.mp h]
            exact ⟨n1, w3, w4, by show 1 ≤ ws.length; omega, by show ws.length ≤ 4; omega⟩
        · rw [List.map_append]
          exact nd_snoc t7 nm1
    · rintro σ H2 ⟨⟨v3, v4, v5, v6, rfl⟩, B2, k2, tbs, xs, t1, t2, t3, t4, t5, t6, t7⟩
      refine ⟨_, rfl, k pl xs tbs H2 B2 k2 hpl t3 t5 ⟨t6, t7, by omega, by omega⟩⟩
end
end Fm

namespace Fm
open PySem PySem.Spec PyProof.Rows L2
/-! ### row * int, for any list and any tuple -/
theorem tuple_mulS (l : Addr) (items : Array Value) (n : Nat) (dd : Option Addr) (sl : Array (Option Value)) (x : Int) (u : Tok) (c0 : (decide (x < -(2 ^ 63)) || decide (x ≥ 2 ^ 63)) = false) (c1 : (items.isEmpty || x == 1) = true) :
    Meets (Builtin.«tuple.__mul__» ⟨[.ref l, .int x u], []⟩) (fun _ R s => s.heap.get? l = some { cls := .type "tuple", dict := dd, data := .seq items n, slots := sl } ∧ R (.ok (.ret (Value.ref l))) s) :=
  .of_wp fun prog w A R s h => by
    obtain ⟨hp, g, d, tk, os⟩ := s
    obtain ⟨hl, h⟩ := h
    have f1 := AutoSeq1.idx_int
    wp_walk using wpAny_loadPart' hl
    repeat (first
      | (refine wpAny_ite_false (decide_eq_false (by rw [c0]; exact Bool.false_ne_true)) ?_; wp_walk using wpAny_loadPart' hl)
      | (refine wpAny_ite_true (decide_eq_true c1) ?_; wp_walk using wpAny_loadPart' hl))
    exact ⟨_, rfl, h⟩
theorem int_rmul_list (a : Int) (t : Tok) (l : Addr) (items : Array Value) (n : Nat) (dd : Option Addr) (sl : Array (Option Value)) :
    Meets (Builtin.«int.__rmul__» ⟨[.int a t, .ref l], []⟩) (fun _ R s => s.heap.get? l = some { cls := .type "list", dict := dd, data := .seq items n, slots := sl } ∧ R (.ok (.ret Value.notImplemented)) s) :=
  .of_wp fun prog w A R s h => by obtain ⟨hp, g, d, tk, os⟩ := s; obtain ⟨hl, h⟩ := h; wp_walk using wpAny_loadPart' hl; exact ⟨_, rfl, h⟩
theorem list_mulW (l : Addr) (items : Array Value) (n : Nat) (dd : Option Addr) (sl : Array (Option Value)) (x : Int) (u : Tok) (hc0 : ¬(!Builtin.List.listFitsIndex x) = true) (hc1 : ¬items.size * x.toNat > (2 ^ 63 - 1) / 8) (hc2 : ¬Builtin.List.listTooLong (items.size * x.toNat) = true) :
    Meets (Builtin.«list.__mul__» ⟨[.ref l, .int x u], []⟩) (fun _ R s => s.heap.get? l = some { cls := .type "list", dict := dd, data := .seq items n, slots := sl } ∧ R (.ok (.ret (Value.ref s.heap.objs.size))) { s with heap := s.heap.push { cls := Value.type "list", data := Data.seq (List.foldl (fun x1 x2 => x1 ++ x2) #[] (List.replicate (if items.isEmpty = true then 0 else x.toNat) items)) }, toks := s.toks }) :=
  .of_wp fun prog w A R s h => by
    obtain ⟨hp, g, d, tk, os⟩ := s; obtain ⟨hl, h⟩ := h
    have hsz := AutoListH.joined_fits hc2
    wp_walk; refine wpAny_ite_false (decide_eq_false (Nat.not_lt.mpr hsz)) ?_; wp_walk; exact ⟨_, rfl, h⟩
section
variable {X : Cx}
def rRepL (K : PySem.W.Frag) : R2 := fun x y H Q => ∃ l k xs, x = .ref l ∧ y = .int k ∧ SqL K H l xs ∧ 1 ≤ k ∧ k ≤ 1000 ∧ xs.length ≤ 1000 ∧ ∀ p, H p = none → Q (.ref p) (upd H p (.lst (List.replicate k.toNat xs).flatten))
theorem op_repL : OpR X (binaryOp .Mult) (rRepL X.K) := by
  intro pins s σ H x y v u Q I rx ry h
  obtain ⟨l, k, xs, rfl, rfl, hs, h1, h2, hz, q⟩ := h
  cases rx
  obtain ⟨t, rfl⟩ := ry
  obtain ⟨its, rv, ⟨⟨cls, dd, data, sl⟩, n, ho, hc, hdn, hd⟩, hlen⟩ := I.list hs
  have hc1 : cls = Value.type "list" := hc
  have hd1 : data = Data.seq its.toArray n := hd
  subst hc1 hd1
  have hle : its.length = xs.length := rv.length.symm
  have hm : its.toArray.size * k.toNat ≤ 1000000 := by
    rw [List.size_toArray, hle]
    exact Nat.le_trans (Nat.mul_le_mul hz (show k.toNat ≤ 1000 by omega)) (by decide)
  have hsl := sizeLine_eq
  have hfit : ¬ (!Builtin.List.listFitsIndex k) = true := by
    rw [fitsIndex_both (by omega) (by omega)]
    exact Bool.false_ne_true
  have hlong : ¬ Builtin.List.listTooLong (its.toArray.size * k.toNat) = true := by
    simp only [Builtin.List.listTooLong, decide_eq_true_eq]; omega
  have hnew : List.foldl (fun x1 x2 => x1 ++ x2) #[] (List.replicate (if its.toArray.isEmpty = true then 0 else k.toNat) its.toArray) = (List.replicate k.toNat its).flatten.toArray := by
    rw [size_rep]
    cases its with
    | nil => simp
    | cons a r' => rw [if_neg (by simp)]
  refine wpAny_binaryOp_repeat_ref (T := "list") (U := "int") (by decide) ⟨_, ho, rfl⟩ (fun s' => typeIs_int s' k t) noFill_list_mul F.fills_int_mul F.slot_int_rmul repeat_list F.slot_int_index.lookup
    (call_meets F.slot_int_rmul (typeIs_int s k t) F.entry_int_rmul (F.args_int_rmul_2 _ _) (int_rmul_list k t l its.toArray n dd sl)
      ⟨ho, rfl, ⟨_, ho, rfl⟩, call_meets F.slot_list_mul ⟨_, ho, rfl⟩ F.entry_list_mul (F.args_list_mul_2 _ _) (list_mulW l its.toArray n dd sl k t hfit (by omega) hlong) ⟨ho, ?_⟩⟩)
  rw [hnew]
  exact ⟨.ref _, _, I.lnew (t' := s.toks) (rv.rep k.toNat) (by rw [PyProof.Rows.lm_len_rep_flat, Nat.mul_comm, ← hle, ← List.size_toArray]; omega), rfl, q _ I.fresh⟩
def rRepS (K : PySem.W.Frag) : R2 := fun x y H Q => ∃ l k xs, x = .ref l ∧ y = .int k ∧ SqT K H l xs ∧ (xs = [] ∨ k = 1) ∧ 1 ≤ k ∧ k ≤ 1000 ∧ Q (.ref l) H
theorem op_repS : OpR X (binaryOp .Mult) (rRepS X.K) := by
  intro pins s σ H x y v u Q I rx ry h
  obtain ⟨l, k, xs, rfl, rfl, hT, hne, h1, h2, q⟩ := h
  cases rx
  obtain ⟨t, rfl⟩ := ry
  obtain ⟨its, r, ⟨⟨cls, dd, data, sl⟩, ho, hc, n, hd⟩, hs⟩ := I.tuple hT
  simp only at hc hd
  subst hc hd
  have hle : its.length = xs.length := r.length.symm
  have c0 : (decide (k < -(2 ^ 63)) || decide (k ≥ 2 ^ 63)) = false := by
    rw [decide_eq_false (by omega), decide_eq_false (by omega)] <;> rfl
  have c1 : (its.toArray.isEmpty || k == 1) = true := by
    rcases hne with e | e
    · rw [e] at hle
      rw [List.eq_nil_of_length_eq_zero hle]; rfl
    · rw [e]; simp
  refine wpAny_binaryOp_repeat_ref (T := "tuple") (U := "int") (by decide) ⟨_, ho, rfl⟩ (fun s' => typeIs_int s' k t) noFill_tuple_mul F.fills_int_mul F.slot_int_rmul repeat_tuple F.slot_int_index.lookup
    (call_meets F.slot_int_rmul (typeIs_int s k t) F.entry_int_rmul (F.args_int_rmul_2 _ _) (int_rmul_tuple k t l its.toArray n dd sl)
      ⟨ho, rfl, ⟨_, ho, rfl⟩, call_meets F.slot_tuple_mul ⟨_, ho, rfl⟩ F.entry_tuple_mul (F.args_tuple_mul_2 _ _) (tuple_mulS l its.toArray n dd sl k t c0 c1) ⟨ho, ?_⟩⟩)
  exact ⟨.ref l, H, I, rfl, q⟩
/-- row * int, 1 ≤ int -/
def rRepG (K : PySem.W.Frag) : R2 := fun x y H Q => ∃ l k xs, x = .ref l ∧ y = .int k ∧ 1 ≤ k ∧ k ≤ 1000 ∧ xs.length ≤ 1000 ∧
  ((SqL K H l xs ∧ ∀ p, H p = none → Q (.ref p) (upd H p (.lst (List.replicate k.toNat xs).flatten))) ∨
   (SqT K H l xs ∧ ((xs = [] ∨ k = 1) → Q (.ref l) H) ∧ (xs ≠ [] → 2 ≤ k → ∀ p, H p = none → Q (.ref p) (upd H p (.tup (List.replicate k.toNat xs).flatten)))))
theorem op_repG : OpR X (binaryOp .Mult) (rRepG X.K) := by
  intro pins s σ H x y v u Q I rx ry h
  obtain ⟨l, k, xs, rfl, rfl, h1, h2, h3, h⟩ := h
  rcases h with ⟨h, q⟩ | ⟨h, q1, q2⟩
  · exact op_repL pins s σ H _ _ v u Q I rx ry ⟨l, k, xs, rfl, rfl, h, h1, h2, h3, q⟩
  · by_cases e : xs = [] ∨ k = 1
    · exact op_repS pins s σ H _ _ v u Q I rx ry ⟨l, k, xs, rfl, rfl, h, e, h1, h2, q1 e⟩
    · have e1 : xs ≠ [] := fun z => e (.inl z)
      have e2 : k ≠ 1 := fun z => e (.inr z)
      exact op_repT pins s σ H _ _ v u Q I rx ry ⟨l, k, xs, rfl, rfl, h, e1, by omega, h2, h3, q2 e1 (by omega)⟩
end
end Fm

namespace Fm
open PySem PySem.Spec PyProof.Rows L2
theorem wts_snoc {a : List PyData} {k : Nat} {e : PyData} (h : a[k]? = some e) : wts (a.take (k + 1)) = wts (a.take k) + wt e := by
  rw [take_snoc h, wts_app]; simp [wts]
theorem wts_set (e : PyData) : ∀ (a : List PyData) (k : Nat), wts (a.set k e) ≤ wts a + wt e
  | [], k => by rw [List.set_nil]; omega
  | x :: a, 0 => by rw [List.set_cons_zero, wts, wts]; omega
  | x :: a, k + 1 => by rw [List.set_cons_succ, wts, wts]; have := wts_set e a k; omega
/-- a place within a thing -/
inductive At : PyData → List Nat → PyData → Prop
  | nil {d : PyData} : At d [] d
  | lst {ds : List PyData} {k : Nat} {e f : PyData} {js : List Nat} : ds[k]? = some e → At e js f → At (.list ds) (k :: js) f
  | tup {ds : List PyData} {k : Nat} {e f : PyData} {js : List Nat} : ds[k]? = some e → At e js f → At (.tuple ds) (k :: js) f
theorem At.wt : ∀ {d : PyData} {js : List Nat} {e : PyData}, At d js e → wt e ≤ Fm.wt d
  | _, _, _, .nil => Nat.le_refl _
  | _, _, _, .lst h a => by have := a.wt; have := wts_at h; rw [Fm.wt]; omega
  | _, _, _, .tup h a => by have := a.wt; have := wts_at h; rw [Fm.wt]; omega
def nvs (js : List Nat) : List V := js.map fun (j : Nat) => V.int (j : Int)
theorem nvs_app (a b : List Nat) : nvs (a ++ b) = nvs a ++ nvs b := List.map_append
theorem nvs_len (a : List Nat) : (nvs a).length = a.length := List.length_map _
theorem DtAll.set {S : Addr → Prop} {q : Bool} {H : Hp} : ∀ {n : Nat} {v : List V} {d : List PyData}, DtAll S q H n v d → ∀ (i : Nat) {x : V} {e : PyData}, Dt S q H n x e → DtAll S q H n (v.set i x) (d.set i e)
  | _, _, _, .nil, i, _, _, _ => .nil
  | _, _, _, .cons a b, 0, _, _, h => .cons h b
  | _, _, _, .cons a b, i + 1, _, _, h => .cons a (DtAll.set b i h)
theorem catA_in {K : PySem.W.Frag} {H : Hp} {a b : Addr} {xs ys : List V} {Q : VK} (ha : H a = some (.tup xs)) (hb : H b = some (.tup ys)) (hl : xs.length + ys.length ≤ sizeLine) (q : ∀ r H', Kp [] H H' → H' r = some (.tup (xs ++ ys)) → Q (.ref r) H') : rCatA K (.ref a) (.ref b) H Q := by
  refine ⟨a, b, xs, ys, rfl, rfl, .inl (.inl ha), .inl (.inl hb), hl, fun e => ?_, fun _ e => ?_, fun _ _ p hp => q p _ (Kp.new hp) upd_same⟩
  · exact q b H (Kp.refl _) (by rw [e, List.nil_append]; exact hb)
  · exact q a H (Kp.refl _) (by rw [e, List.append_nil]; exact ha)
theorem cutN_drop {xs : List V} {i : Nat} (h : i ≤ xs.length) : cutV xs (some ((i : Nat) : Int)) none = xs.drop i := by
  unfold cutV
  rw [show HT.sIx xs.length 0 (some ((i : Nat) : Int)) = min i xs.length from HT.sIx_nat _ _ i, HT.sIx_none, Nat.min_eq_left h]
  exact List.take_of_length_le (by rw [List.length_drop]; omega)
theorem wts_swap (e : PyData) : ∀ {a : List PyData} {k : Nat} {x : PyData}, a[k]? = some x → wts (a.set k e) + wt x = wts a + wt e
  | y :: a, 0, x, h => by cases h; rw [List.set_cons_zero, wts, wts]; omega
  | y :: a, k + 1, x, h => by rw [List.set_cons_succ, wts, wts]; have := wts_swap e (a := a) (k := k) h; omega
theorem ixN_nat {n j : Nat} (h : j < n) : ixN n (j : Int) = some j := by
  unfold ixN
  rw [if_pos (by omega), if_pos (by omega), Int.toNat_natCast]
theorem atI_nat {α : Type} {xs : List α} {k : Nat} {x : α} (h : xs[k]? = some x) : atI xs (k : Int) = some x := atI_of (by omega) (by simpa using h)
def spInt : Sp := fun vs H Q _ => ∃ (S : Addr → Prop) (q : Bool) (n : Nat) (x : V) (d : PyData), vs = [x] ∧ Dt S q H n x d ∧ Q (.bl (isI d && !isB d)) H
def spAt : Sp := fun vs H Q _ => ∃ (S : Addr → Prop) (n : Nat) (x : V) (d : PyData) (p : Addr) (js : List Nat) (f : PyData), vs = [x, .ref p] ∧ Dt S true H n x d ∧ H p = some (.tup (nvs js)) ∧ At d js f ∧
  ∀ v, js.length ≤ n → Dt S true H (n - js.length) v f → Q v H
def spWith (n : Nat) : Sp := fun vs H Q _ => ∃ (S : Addr → Prop) (m N M : Nat) (x y : V) (d g : PyData) (p : Addr) (js : List Nat) (f : PyData), vs = [x, .ref p, y] ∧ Dt S true H m x d ∧ H p = some (.tup (nvs js)) ∧ At d js f ∧ Dt S true H N y g ∧ js.length ≤ n ∧ m ≤ M ∧ N + js.length ≤ M ∧
  ∀ v e H', Kp [] H H' → Dt (fun a => S a ∨ H a = none) true H' M v e → wt e ≤ wt d + wt g → Q v H'
/-- a list or a tuple -/
def RwAt (H : Hp) (p : Addr) (xs : List V) : Prop := Rd H p (.lst xs) ∨ H p = some (.tup xs)
theorem RwAt.keep {H H' : Hp} {p : Addr} {xs : List V} (h : RwAt H p xs) (k : Kp [] H H') : RwAt H' p xs := h.elim (fun h => .inl (k.rd (fun z => nomatch z) h)) (fun h => .inr (k.tp _ _ h))
theorem RwAt.sq {H : Hp} {K : PySem.W.Frag} {p : Addr} {xs : List V} (h : RwAt H p xs) : SqL K H p xs ∨ SqT K H p xs := h.elim (fun h => .inl (.inl h)) (fun h => .inr (.inl (.inl h)))
theorem RwAt.len {H : Hp} {K : PySem.W.Frag} {p : Addr} {xs : List V} (h : RwAt H p xs) : LenV K (.ref p) H xs.length := h.elim (fun h => .inl ⟨_, .inl h, rfl⟩) (fun h => .inr ⟨_, .inl (.inl h), rfl⟩)
theorem RwAt.ix {H : Hp} {K : PySem.W.Frag} {p : Addr} {xs : List V} {i : Nat} {v : V} {Q : VK} (h : RwAt H p xs) (e : xs[i]? = some v) (q : Q v H) : rIxL K (.ref p) (.int (i : Int)) H Q ∨ rIxT K (.ref p) (.int (i : Int)) H Q :=
  h.elim (fun h => .inl ⟨p, xs, _, v, rfl, rfl, .inl h, atI_nat e, q⟩) (fun h => .inr ⟨p, xs, _, v, rfl, rfl, .inl (.inl h), atI_nat e, q⟩)
theorem Dt.row {S : Addr → Prop} {q : Bool} {H : Hp} {n : Nat} {x : V} {d : PyData} (h : Dt S q H n x d) (hd : isRowD d = true) : ∃ ds m p xs, x = .ref p ∧ n = m + 1 ∧ RwAt H p xs ∧ xs.length ≤ 1000000 ∧ S p ∧ DtAll S q H m xs ds ∧ ((d = .list ds ∧ isT d = false ∧ Rd H p (.lst xs)) ∨ (d = .tuple ds ∧ isT d = true ∧ H p = some (.tup xs))) := by
  cases h with
  | @lst m p xs ds rx lx ax => exact ⟨ds, m, p, xs, rfl, rfl, .inl rx, lx.1, lx.2, ax, .inl ⟨rfl, rfl, rx⟩⟩
  | @tup m p xs ds rx lx ax => exact ⟨ds, m, p, xs, rfl, rfl, .inr rx, lx.1, lx.2, ax, .inr ⟨rfl, rfl, rx⟩⟩
  | _ => cases hd
theorem wt_row {d : PyData} {ds : List PyData} {A B : Prop} {A' B' : Prop} (h : (d = .list ds ∧ A ∧ A') ∨ (d = .tuple ds ∧ B ∧ B')) : wt d = 1 + wts ds := by
  rcases h with ⟨rfl, _⟩ | ⟨rfl, _⟩ <;> rw [wt]
theorem At.row {d e f : PyData} {ds : List PyData} {A B A' B' : Prop} {k : Nat} {js : List Nat} (a : At e js f) (h : (d = .list ds ∧ A ∧ A') ∨ (d = .tuple ds ∧ B ∧ B')) (h1 : ds[k]? = some e) : At d (k :: js) f := by
  rcases h with ⟨rfl, _⟩ | ⟨rfl, _⟩
  · exact .lst h1 a
  · exact .tup h1 a
/-- a path within d, behind js -/
def PathAt (H : Hp) (d : PyData) (js : List Nat) (n : Nat) (y : V) : Prop := ∃ q ks e, y = .ref q ∧ H q = some (.tup (nvs (js ++ ks))) ∧ At d ks e ∧ ks.length ≤ n
theorem PathAt.keep {H H' : Hp} {d : PyData} {js : List Nat} {n : Nat} {y : V} (h : PathAt H d js n y) (k : Kp [] H H') : PathAt H' d js n y := by
  obtain ⟨q, ks, e, h1, h2, h3⟩ := h
  exact ⟨q, ks, e, h1, k.tp _ _ h2, h3⟩
def spPlaces (n : Nat) : Sp := fun vs H Q _ => ∃ (S : Addr → Prop) (x : V) (d : PyData) (p : Addr) (js : List Nat), vs = [x, .ref p] ∧ Dt S true H n x d ∧ H p = some (.tup (nvs js)) ∧ js.length + n ≤ 1000 ∧ wt d ≤ 1000000 ∧
  ∀ l xs H', Kp [] H H' → H l = none → H' l = some (.lst xs) → 1 ≤ xs.length → xs.length ≤ wt d → (∀ y ∈ xs, PathAt H' d js n y) → Q (.ref l) H'
def spPlacesB : Nat → Sp
  | 0 => fun _ _ _ _ => False
  | n + 1 => spPlaces n
def spDeep (n : Nat) : Sp := fun vs H Q _ => ∃ (S : Addr → Prop) (x : V) (d : PyData), vs = [x] ∧ Dt S true H n x d ∧ ∀ i H', Kp [] H H' → Q (.int i) H'
def spDeepB : Nat → Sp
  | 0 => fun _ _ _ _ => False
  | n + 1 => spDeep n
def spWithB : Nat → Sp
  | 0 => fun _ _ _ _ => False
  | n + 1 => spWith n
section
variable {P : Program} {w : World} {K : PySem.W.Frag} {mg : Str → Option Value} {base : Heap}
theorem ok_integer (B : Bi mg) (D : Dfn K mg "_law_integer" s__law_integer ["_law_thing"]) : Has P w K mg base CX0 "_law_integer" ["_law_thing"] 1 spInt := by
  refine D.has sc__law_integer (fun vs H Q E h => ?_) (fun f cdv A outer s H vs Q E hr h => ?_)
  · obtain ⟨S, q, n, x, d, rfl, _⟩ := h; rfl
  · obtain ⟨S, q, n, x, d, rfl, hx, k⟩ := h
    refine ⟨_, (pss_one (ps_ret (pe_and (pe_callB call_isi (by rfl) B.isinstance (by decide +kernel) (pa_cons (pv 0) (pa_cons (pe_bltn (v := .ty "int") (by rfl) B.int (by decide +kernel) rfl) pa_nil))) (pe_one (pe_not (pe_callB call_isi (by rfl) B.isinstance (by decide +kernel) (pa_cons (pv 0) (pa_cons (pe_bltn (v := .ty "bool") (by rfl) B.bool (by decide +kernel) rfl) pa_nil)))))))), ?_⟩
    refine ⟨_, rfl, _, _, _, _, _, rfl, .ty _, hx.ty, kit_ty (kb_int _), _, rfl, ?_⟩
    cases hi : isI d with
    | false =>
      rw [hi] at k
      exact iteF k
    | true =>
      rw [hi] at k
      refine iteT ?_
      exact ⟨_, rfl, _, _, _, _, _, rfl, .ty _, hx.ty, kit_ty (kb_bool _), _, rfl, k⟩
theorem ok_at (B : Bi mg) (D : Dfn K mg "_law_at" s__law_at ["_law_thing", "_law_path"]) : Has P w K mg base CX0 "_law_at" ["_law_thing", "_law_path"] 1 spAt := by
  refine D.has sc__law_at (fun vs H Q E h => ?_) (fun f cdv A outer s H vs Q E hr h => ?_)
  · obtain ⟨S, n, x, d, p, js, f, rfl, _⟩ := h; rfl
  · obtain ⟨S, n, x, d, p, js, f, rfl, hx, hp, ha, k⟩ := h
    refine ⟨_, (pss_cons (ps_for PassesOwn.never rfl (pi_tup (pv 1)) (pg_name (i := 2) sc__law_at.nd rfl (by first | exact Or.inl rfl | exact Or.inr rfl))
  (pss_one (ps_set (i := 0) sc__law_at.nd rfl (by first | exact Or.inl rfl | exact Or.inr rfl) (pe_ix (ix_list.or ix_tup) (pv 0) (pv 2) (fun _ _ => rfl)))))
  (pss_one (ps_ret (pv 0)))), ?_⟩
    refine ⟨_, rfl, p, rfl, ⟨_, .inl (.inl hp)⟩, ?_⟩
    refine for_it (walk_tup (xs := nvs js)) (fun i σ H' => H' = H ∧ ∃ v e o, σ = [some v, some (.ref p), o] ∧ At e (js.drop i) f ∧ i ≤ n ∧ Dt S true H (n - i) v e) ⟨rfl, x, d, none, rfl, ha, Nat.zero_le _, hx⟩ (fun i σ H' _ h => by rw [h.1]; exact .inl (.inl hp)) ?_ ?_
    · rintro i u σ H2 H3 hi ⟨rfl, v, e, o, rfl, a, hn, dv⟩ ⟨rfl, hu⟩
      have hi' : i < js.length := by rw [nvs_len] at hi; exact hi
      have ej : js[i]? = some js[i] := List.getElem?_eq_getElem hi'
      have eu : u = V.int (js[i] : Nat) := by
        have : (nvs js)[i]? = some (V.int (js[i] : Nat)) := by unfold nvs; rw [List.getElem?_map, ej]; rfl
        rw [this] at hu; exact (Option.some.inj hu).symm
      subst eu
      have ed : js.drop i = js[i] :: js.drop (i + 1) := List.drop_eq_getElem_cons hi'
      rw [ed] at a
      cases a with
      | @lst ds _ e1 _ _ h1 a =>
        obtain ⟨t, ht⟩ : ∃ t, n - i = t := ⟨_, rfl⟩
        rw [ht] at dv
        cases dv with
        | @lst m q xs _ rx lx ax =>
          obtain ⟨y, hy, dy⟩ := ax.get h1
          refine ⟨_, rfl, _, rfl, .inl ⟨q, xs, _, y, rfl, rfl, .inl rx, atI_nat hy, rfl, y, e1, _, rfl, a, by omega, ?_⟩⟩
          rw [show n - (i + 1) = m by omega]; exact dy
      | @tup ds _ e1 _ _ h1 a =>
        obtain ⟨t, ht⟩ : ∃ t, n - i = t := ⟨_, rfl⟩
        rw [ht] at dv
        cases dv with
        | @tup m q xs _ rx lx ax =>
          obtain ⟨y, hy, dy⟩ := ax.get h1
          refine ⟨_, rfl, _, rfl, .inr ⟨q, xs, _, y, rfl, rfl, .inl (.inl rx), atI_nat hy, rfl, y, e1, _, rfl, a, by omega, ?_⟩⟩
          rw [show n - (i + 1) = m by omega]; exact dy
    · rintro σ H2 ⟨rfl, v, e, o, rfl, a, hn, dv⟩
      rw [nvs_len] at a hn dv
      rw [List.drop_length] at a
      cases a
      exact ⟨_, rfl, k v hn dv⟩
theorem step_with (B : Bi mg) (D : Dfn K mg "_law_with" s__law_with ["_law_thing", "_law_path", "_law_part"]) (n : Nat) (G_with : Has P w K mg base CX0 "_law_with" ["_law_thing", "_law_path", "_law_part"] n (spWithB n)) :
    Has P w K mg base CX0 "_law_with" ["_law_thing", "_law_path", "_law_part"] (n + 1) (spWith n) := by
  refine D.has sc__law_with (fun vs H Q E h => ?_) (fun f cdv A outer s H vs Q E hr h => ?_)
  · obtain ⟨S, m, N, M, x, y, d, g, p, js, f, rfl, _⟩ := h; rfl
  · obtain ⟨S, m, N, M, x, y, d, g, p, js, f, rfl, hx, hp, ha, hy, hl, hm, hN, k⟩ := h
    refine ⟨_, (pss_cons (ps_if (pt_cmpR op_eq (pe_callB call_len (by rfl) B.len PySem.boot_len (pa_cons (pv 1) pa_nil)) pe_int (nomark _))
  (pss_one (ps_ret (pv 2)))
  pss_nil)
  (pss_cons (ps_set (i := 3) sc__law_with.nd rfl (by first | exact Or.inl rfl | exact Or.inr rfl) (pe_callTy call_list_of (by rfl) B.list (by decide +kernel) (pa_cons (pv 0) pa_nil)))
  (pss_cons (ps_asg (pe_has G_with hr (pa_cons (pe_ix ix_list (pv 3) (pe_ix ix_tup (pv 1) pe_int (fun _ _ => rfl)) (fun _ _ => rfl)) (pa_cons (pe_slice sl_tupA (pv 1) (po_some pe_int) po_none) (pa_cons (pv 2) pa_nil)))) (pg_sub (pv 3) (pe_ix ix_tup (pv 1) pe_int (fun _ _ => rfl)) set_list))
  (pss_cons (ps_if (pt_val (pe_callB call_isi (by rfl) B.isinstance (by decide +kernel) (pa_cons (pv 0) (pa_cons (pe_bltn (v := .ty "tuple") (by rfl) B.tuple (by decide +kernel) rfl) pa_nil))))
  (pss_one (ps_ret (pe_callTy call_tuple_of (by rfl) B.tuple (by decide +kernel) (pa_cons (pv 3) pa_nil))))
  pss_nil)
  (pss_one (ps_ret (pv 3))))))), ?_⟩
    refine ⟨_, rfl, _, _, rfl, .inr ⟨_, .inl (.inl hp), rfl⟩, rfl, _, rfl, ?_⟩
    have key : js = [] ∧ f = d ∨ ∃ ds j e r m' q xs, js = j :: r ∧ ds[j]? = some e ∧ At e r f ∧ m = m' + 1 ∧ x = .ref q ∧ (SqL K H q xs ∨ SqT K H q xs) ∧ xs.length ≤ 1000000 ∧ DtAll S true H m' xs ds ∧ ((isT d = false ∧ d = .list ds) ∨ (isT d = true ∧ d = .tuple ds)) := by
      cases ha with
      | nil => exact .inl ⟨rfl, rfl⟩
      | @lst ds j e _ r h1 a =>
        cases hx with
        | @lst m q xs _ rx lx ax => exact .inr ⟨ds, j, e, r, m, q, xs, rfl, h1, a, rfl, rfl, .inl (.inl rx), lx.1, ax, .inl ⟨rfl, rfl⟩⟩
      | @tup ds j e _ r h1 a =>
        cases hx with
        | @tup m q xs _ rx lx ax => exact .inr ⟨ds, j, e, r, m, q, xs, rfl, h1, a, rfl, rfl, .inr (.inl (.inl rx)), lx.1, ax, .inr ⟨rfl, rfl⟩⟩
    rcases key with ⟨rfl, rfl⟩ | ⟨ds, j, e, r, m', q, xs, rfl, h1, a, rfl, rfl, hq, lx, ax, hd⟩
    · refine iteT ⟨_, rfl, ?_⟩
      exact k _ _ _ (Kp.refl _) ((hy.mono (by rw [List.length_nil] at hN; omega)).imp fun a h => .inl h) (by omega)
    · obtain ⟨z, hz, dz⟩ := ax.get h1
      obtain ⟨M', rfl⟩ : ∃ M', M = M' + 1 := ⟨M - 1, by omega⟩
      obtain ⟨n', rfl⟩ : ∃ n', n = n' + 1 := ⟨n - 1, by rw [List.length_cons] at hl; omega⟩
      rw [List.length_cons] at hl hN
      rw [decide_eq_false (show ¬ V.int ((nvs (j :: r)).length : Int) = V.int 0 from fun z => by injection z with z; rw [nvs_len, List.length_cons] at z; omega)]
      refine iteF ?_
      refine ⟨_, rfl, q, xs, rfl, hq, fun l hl1 => ?_⟩
      have k1 : Kp [] H (upd H l (.lst xs)) := Kp.new hl1
      have hp1 := k1.tp _ _ hp
      refine ⟨_, rfl, _, rfl, p, _, _, .int j, rfl, rfl, .inl (.inl hp1), atI_nat (k := 0) rfl, l, xs, _, z, rfl, rfl, .inl (.inl upd_same), atI_nat hz, ?_⟩
      refine ⟨_, rfl, _, rfl, p, _, rfl, .inl (.inl hp1), fun hc => ?_, fun hc p2 hp2 => ?_⟩
      · exfalso
        have h0 := hc.1
        rw [show (some (1 : Int)) = some ((1 : Nat) : Int) from rfl, HT.sIx_nat, nvs_len, List.length_cons] at h0
        omega
      · rw [show cutV (nvs (j :: r)) (some 1) none = nvs r from (cutN_drop (i := 1) (by rw [nvs_len, List.length_cons]; omega)).trans rfl]
        have k2 := k1.snoc (o := .tup (nvs r)) hp2
        have hl2 : upd (upd H l (.lst xs)) p2 (.tup (nvs r)) l = some (.lst xs) := by
          rw [upd_ne (fun z => by rw [← z, upd_same] at hp2; cases hp2), upd_same]
        refine ⟨_, rfl, fun a => S a ∧ H a ≠ none, m', N, M', z, y, e, g, p2, r, f, rfl, dz.inH.keep k2, upd_same, a, hy.inH.keep k2, by omega, by omega, by omega, fun v' e' H3 k3 d3 w3 => ?_⟩
        have hp3 := k3.tp _ _ (k2.tp _ _ hp)
        have hl3 := k3.at_ _ _ hl2 (fun z => nomatch z)
        have hj : j < xs.length := (List.getElem?_eq_some_iff.mp hz).1
        refine ⟨_, rfl, _, rfl, p, _, _, .int j, rfl, rfl, .inl (.inl hp3), atI_nat (k := 0) rfl, l, xs, _, j, rfl, rfl, hl3, ?_, ?_⟩
        · exact ixN_nat hj
        have k4 : Kp [] H (upd H3 l (.lst (xs.set j v'))) := (k2.trans k3).late hl1
        have ax4 : DtAll (fun a => S a ∨ H a = none) true (upd H3 l (.lst (xs.set j v'))) M' (xs.set j v') (ds.set j e') := by
          refine DtAll.set ?_ j ?_
          · exact ((ax.mono (by omega)).imp fun a h => .inl h).keep k4
          · refine d3.keepS (fun a o ha e => ?_) (fun a ha => ?_)
            · rw [upd_ne (fun z => ?_)]; exact e
              rw [z] at ha
              rcases ha with ha | ha
              · exact ha.2 hl1
              · rw [hl2] at ha; cases ha
            · rcases ha with ha | ha
              · exact .inl ha.1
              · exact .inr (k2.same.free ha)
        have hw : wts (ds.set j e') ≤ wts ds + wt g := by
          have := wts_swap e' h1
          omega
        have hlen : (xs.set j v').length ≤ 1000000 := by rw [List.length_set]; exact lx
        have hx4 := hx.keep k4
        refine ⟨_, rfl, _, _, _, _, _, rfl, .ty _, hx4.ty, kit_ty (kb_tuple _), _, rfl, ?_⟩
        rcases hd with ⟨hT, rfl⟩ | ⟨hT, rfl⟩
        · refine iteF ⟨_, rfl, ?_⟩
          exact k _ (.list (ds.set j e')) _ k4 (.lst (.inl upd_same) ⟨hlen, .inr hl1⟩ ax4) (by rw [wt, wt]; omega)
        · refine iteT ⟨_, rfl, l, _, rfl, .inl ⟨.inl (.inl upd_same), fun p5 hp5 => ?_⟩⟩
          exact k _ (.tuple (ds.set j e')) _ (k4.snoc hp5) (.tup upd_same ⟨hlen, .inr (k4.same.free hp5)⟩ (ax4.keep (Kp.new hp5))) (by rw [wt, wt]; omega)
theorem ok_with (B : Bi mg) (D : Dfn K mg "_law_with" s__law_with ["_law_thing", "_law_path", "_law_part"]) : ∀ n : Nat, Has P w K mg base CX0 "_law_with" ["_law_thing", "_law_path", "_law_part"] (n + 1) (spWith n)
  | 0 => step_with B D 0 D.none
  | n + 1 => step_with B D (n + 1) (ok_with B D n)
theorem step_places (B : Bi mg) (D : Dfn K mg "_law_places" s__law_places ["_law_thing", "_law_path"]) (n : Nat) (G_places : Has P w K mg base CX0 "_law_places" ["_law_thing", "_law_path"] n (spPlacesB n)) :
    Has P w K mg base CX0 "_law_places" ["_law_thing", "_law_path"] (n + 1) (spPlaces n) := by
  refine D.has sc__law_places (fun vs H Q E h => ?_) (fun f cdv A outer s H vs Q E hr h => ?_)
  · obtain ⟨S, x, d, p, js, rfl, _⟩ := h; rfl
  · obtain ⟨S, x, d, p, js, rfl, hx, hp, hjs, hw, k⟩ := h
    refine ⟨_, (pss_cons (ps_set (i := 2) sc__law_places.nd rfl (by first | exact Or.inl rfl | exact Or.inr rfl) (pe_lst (pa_cons (pv 1) pa_nil)))
  (pss_cons (ps_if (pt_val (pe_callB call_isiT (by rfl) B.isinstance (by decide +kernel) (pa_cons (pv 0) (pa_cons (pe_tup (pa_cons (pe_bltn (v := .ty "list") (by rfl) B.list (by decide +kernel) rfl) (pa_cons (pe_bltn (v := .ty "tuple") (by rfl) B.tuple (by decide +kernel) rfl) pa_nil))) pa_nil))))
  (pss_one (ps_for PassesOwn.never rfl (pi_range1 rfl B.range (pa_cons (pe_callB call_len (by rfl) B.len PySem.boot_len (pa_cons (pv 0) pa_nil)) pa_nil)) (pg_name (i := 3) sc__law_places.nd rfl (by first | exact Or.inl rfl | exact Or.inr rfl))
  (pss_one (ps_expr (pe_bm PySem.F.plainAttrs_list PySem.F.slot_list_extend PySem.F.type_list_extend mt_extend (pv 2) (pa_cons (pe_has G_places hr (pa_cons (pe_ix (ix_list.or ix_tup) (pv 0) (pv 3) (fun _ _ => rfl)) (pa_cons (pe_op op_catA (pv 1) (pe_tup (pa_cons (pv 3) pa_nil))) pa_nil))) pa_nil))))))
  pss_nil)
  (pss_one (ps_ret (pv 2))))), ?_⟩
    refine ⟨_, rfl, by show 1 ≤ sizeLine; decide, fun D hD => ?_⟩
    have k0 : Kp [] H (upd H D (.lst [.ref p])) := Kp.new hD
    refine ⟨_, rfl, (by show 2 ≤ sizeLine; decide), fun T hT => ⟨_, T, _, _, _, _, rfl, upd_same, .cons (.ty _) (.cons (.ty _) .nil), (hx.keep (k0.snoc hT)).ty, kit_row _, _, rfl, ?_⟩⟩
    have k1 := k0.snoc (o := .tup [.ty "list", .ty "tuple"]) hT
    have hD1 : upd (upd H D (.lst [.ref p])) T (.tup [.ty "list", .ty "tuple"]) D = some (.lst [.ref p]) := (Kp.new hT (ms := [])).at_ _ _ upd_same (fun z => nomatch z)
    generalize upd (upd H D (.lst [.ref p])) T (.tup [.ty "list", .ty "tuple"]) = H1 at k1 hD1 ⊢
    have fin : ∀ (xs : List V) (H' : Hp), Kp [] H H' → H' D = some (.lst xs) → 1 ≤ xs.length → xs.length ≤ wt d → (∀ y ∈ xs, PathAt H' d js n y) → Q (.ref D) H' := fun xs H' a b c e g => k D xs H' a hD b c e g
    have p0 : PathAt H d js n (.ref p) := ⟨p, [], d, rfl, by rw [List.append_nil]; exact hp, .nil, Nat.zero_le _⟩
    cases hd : isRowD d with
    | false =>
      refine iteF ⟨_, rfl, fin _ _ k1 hD1 (Nat.le_refl 1) (wt_pos d) fun y hy => ?_⟩
      rw [List.mem_singleton.mp hy]; exact p0.keep k1
    | true =>
      refine iteT ?_
      obtain ⟨ds, m, q, xs, rfl, rfl, rx, lx, _, ax, hds⟩ := hx.row hd
      have rx1 := rx.keep k1
      have ax1 := ax.keep k1
      refine ⟨_, rfl, _, _, rfl, rx1.len, (xs.length : Int), rfl, by omega, by omega, ?_⟩
      refine for_range (lo := 0) (n := (xs.length : Int).toNat) (fun i σ H' => (∃ o, σ = [some (.ref q), some (.ref p), some (.ref D), o]) ∧ Kp [] H H' ∧ Kp [D] H1 H' ∧ ∃ zs, H' D = some (.lst zs) ∧ 1 ≤ zs.length ∧ zs.length ≤ 1 + wts (ds.take i) ∧ ∀ y ∈ zs, PathAt H' d js (m + 1) y)
        ⟨⟨_, rfl⟩, k1, Kp.refl _, _, hD1, Nat.le_refl 1, by simp, fun y hy => by rw [List.mem_singleton.mp hy]; exact p0.keep k1⟩ ?_ ?_
      · rintro i σ H2 hi ⟨⟨o, rfl⟩, k2, k2', zs, z1, z2, z3, z4⟩
        have hi' : i < xs.length := by omega
        obtain ⟨e, he, de⟩ := ax.getV (i := i) (List.getElem?_eq_getElem hi')
        have hi0 : (0 + (i : Int)) = (i : Int) := by omega
        rw [hi0]
        have hp2 := k2.tp _ _ hp
        refine ⟨_, rfl, .inl ⟨rfl, _, SqL.of z1⟩, _, rfl, _, rfl, (rx.keep k2).ix (List.getElem?_eq_getElem hi') ?_⟩
        refine ⟨_, rfl, ⟨_, rfl, (by show 1 ≤ sizeLine; decide), fun T2 hT2 => ?_⟩⟩
        have k3 : Kp [] H2 (upd H2 T2 (.tup [.int (i : Int)])) := Kp.new hT2
        refine catA_in (k3.tp _ _ hp2) upd_same (by rw [nvs_len]; show js.length + 1 ≤ 16777216; omega) fun r H4 k4 h4 => ?_
        have k5 := k3.trans k4
        have h4' : H4 r = some (.tup (nvs (js ++ [i]))) := by rw [nvs_app]; exact h4
        have w1 : wt e + wts (ds.take i) ≤ wts ds := by have := wts_snoc he; have := wts_take (i + 1) ds; omega
        have w2 := wt_row hds
        refine ⟨S, xs[i], e, r, js ++ [i], rfl, de.keep (k2.trans k5), h4', by rw [List.length_append]; simp only [List.length_cons, List.length_nil]; omega, by omega, fun l ys H6 k6 hl6 e6 y1 y2 y3 => ?_⟩
        have z1' := k6.at_ _ _ (k5.at_ _ _ z1 (fun z => nomatch z)) (fun z => nomatch z)
        refine ⟨D, l, zs, ys, rfl, rfl, z1', e6, by show _ ≤ 16777216; omega, ?_⟩
        have k7 := (k2.trans (k5.trans k6)).late (o := .lst (zs ++ ys)) hD
        refine ⟨⟨_, rfl⟩, k7, ((k2'.trans (k5.trans k6).zero)).trans (Kp.updL z1' (by simp)), zs ++ ys, upd_same, by rw [List.length_append]; omega, ?_, fun y hy => ?_⟩
        · rw [List.length_append, wts_snoc he]; omega
        · have up : ∀ {q : Addr} {us : List V}, H6 q = some (.tup us) → upd H6 D (.lst (zs ++ ys)) q = some (.tup us) := fun {q us} h => by
            rw [upd_ne (fun z => by rw [z, z1'] at h; cases h)]; exact h
          rcases List.mem_append.mp hy with hy | hy
          · obtain ⟨q1, ks, f1, a1, a2, a3, a4⟩ := (z4 y hy).keep (k5.trans k6)
            exact ⟨q1, ks, f1, a1, up a2, a3, a4⟩
          · obtain ⟨q1, ks, f1, a1, a2, a3, a4⟩ := y3 y hy
            exact ⟨q1, i :: ks, f1, a1, by rw [show js ++ i :: ks = js ++ [i] ++ ks by simp]; exact up a2, a3.row hds he, by rw [List.length_cons]; omega⟩
      · rintro σ H2 ⟨⟨o, rfl⟩, k2, _, zs, z1, z2, z3, z4⟩
        rw [show (xs.length : Int).toNat = ds.length by rw [ax.len]; omega, List.take_length] at z3
        exact ⟨_, rfl, fin zs H2 k2 z1 z2 (by rw [wt_row hds]; exact z3) z4⟩
theorem ok_places (B : Bi mg) (D : Dfn K mg "_law_places" s__law_places ["_law_thing", "_law_path"]) : ∀ n : Nat, Has P w K mg base CX0 "_law_places" ["_law_thing", "_law_path"] (n + 1) (spPlaces n)
  | 0 => step_places B D 0 D.none
  | n + 1 => step_places B D (n + 1) (ok_places B D n)
theorem step_deep (B : Bi mg) (D : Dfn K mg "_law_deep" s__law_deep ["_law_thing"]) (n : Nat) (G_deep : Has P w K mg base CX0 "_law_deep" ["_law_thing"] n (spDeepB n)) :
    Has P w K mg base CX0 "_law_deep" ["_law_thing"] (n + 1) (spDeep n) := by
  refine D.has sc__law_deep (fun vs H Q E h => ?_) (fun f cdv A outer s H vs Q E hr h => ?_)
  · obtain ⟨S, x, d, rfl, _⟩ := h; rfl
  · obtain ⟨S, x, d, rfl, hx, k⟩ := h
    refine ⟨_, (pss_cons (ps_if (pt_val (pe_callB call_isiT (by rfl) B.isinstance (by decide +kernel) (pa_cons (pv 0) (pa_cons (pe_tup (pa_cons (pe_bltn (v := .ty "list") (by rfl) B.list (by decide +kernel) rfl) (pa_cons (pe_bltn (v := .ty "tuple") (by rfl) B.tuple (by decide +kernel) rfl) pa_nil))) pa_nil))))
  (pss_one (ps_ret (pe_op op_add pe_int (pe_callB (cr_max rfl) (by rfl) B.max (by decide +kernel) (pa_cons (pe_op op_cat (pe_lst (pa_cons pe_int pa_nil)) (pe_lc (own := [("_law_part", 1)]) (g := gName 1) (by rfl) sc__law_deep.nd (pi_or (pi_list (pv 0)) (pi_tup (pv 0))) (blkOk_by (own := [("_law_part", 1)]) (N := N__law_deep) (sc := defScope s__law_deep) (by decide +kernel)) (fun _ _ _ _ _ => (pg_name (i := 1) sc__law_deep.nd rfl (by first | exact Or.inl rfl | exact Or.inr rfl))) (fun _ _ _ _ _ => pts_nil) (fun _ _ _ _ _ => (pe_has G_deep hr (pa_cons (pv 1) pa_nil))))) pa_nil)))))
  pss_nil)
  (pss_one (ps_ret (pe_op op_mul pe_int (pe_callTy call_int1 (by rfl) B.int (by decide +kernel) (pa_cons (pe_callB call_isi (by rfl) B.isinstance (by decide +kernel) (pa_cons (pv 0) (pa_cons (pe_bltn (v := .ty "dict") (by rfl) B.dict (by decide +kernel) rfl) pa_nil))) pa_nil)))))), ?_⟩
    refine ⟨_, rfl, (by show 2 ≤ sizeLine; decide), fun T hT => ⟨_, T, _, _, _, _, rfl, upd_same, .cons (.ty _) (.cons (.ty _) .nil), (hx.keep (Kp.new hT)).ty, kit_row _, _, rfl, ?_⟩⟩
    have k1 : Kp [] H (upd H T (.tup [.ty "list", .ty "tuple"])) := Kp.new hT
    generalize upd H T (.tup [.ty "list", .ty "tuple"]) = H1 at k1 ⊢
    cases hd : isRowD d with
    | false =>
      refine iteF ?_
      refine ⟨_, rfl, _, _, _, _, _, rfl, .ty _, (hx.keep k1).ty, kit_ty (kb_dict _), .inr ⟨_, rfl, _, _, rfl, rfl, ?_, k _ _ k1⟩⟩
      cases isM d <;> (unfold CMul; simp)
    | true =>
      refine iteT ?_
      obtain ⟨ds, m, q, xs, rfl, rfl, rx, lx, _, ax, hds⟩ := hx.row hd
      refine ⟨by show 1 ≤ sizeLine; decide, fun L hL => ?_⟩
      rcases hds with ⟨rfl, _, rx⟩ | ⟨rfl, _, rx⟩
      · refine .inl ⟨_, rfl, q, rfl, ⟨_, .inl ((k1.snoc hL).rd (fun z => nomatch z) rx)⟩, fun D hD => ?_⟩
        have hLD : L ≠ D := fun z => by rw [← z, upd_same] at hD; cases hD
        have k2 := k1.snoc (o := .lst [.int 0]) hL
        refine lc_it (walk_list (xs := xs)) (fun i H' => ∃ ns : List Int, H' D = some (.lst (ns.map V.int)) ∧ ns.length = i ∧ Kp [] (upd H1 L (.lst [.int 0])) H') ⟨[], upd_same, rfl, Kp.new hD⟩ ?_ ?_ ?_
        · rintro i H2 hi ⟨ns, h2, l2, k3⟩
          exact .inl ((k2.trans k3).rd (fun z => nomatch z) rx)
        · rintro i u H2 H3 hi ⟨ns, h2, l2, k3⟩ ⟨rfl, hu1⟩
          obtain ⟨e, he, du⟩ := ax.getV hu1
          refine ⟨rfl, _, rfl, S, u, e, rfl, du.keep (k2.trans k3), fun v H4 k4 => ?_⟩
          refine ⟨_, k4.at_ _ _ h2 (fun z => nomatch z), by rw [List.length_map, l2]; exact Nat.lt_of_lt_of_le hi (Nat.le_trans lx (by decide)), ns ++ [v], by rw [List.map_append]; exact upd_same, by simp [l2], (k3.trans k4).late hD⟩
        · rintro H2 ⟨ns, h2, l2, k3⟩
          have hL2 : H2 L = some (.lst [.int 0]) := k3.at_ _ _ upd_same (fun z => nomatch z)
          refine ⟨L, D, _, _, rfl, rfl, hL2, h2, by rw [List.length_map, l2]; show 1 + xs.length ≤ 16777216; omega, fun p5 hp5 => ?_⟩
          refine ⟨p5, 0 :: ns, rfl, SqL.of upd_same, Nat.succ_pos _, fun v _ _ => ⟨_, _, rfl, rfl, ?_⟩⟩
          exact k _ _ ((k2.trans k3).snoc hp5)
      · refine .inr ⟨_, rfl, q, rfl, ⟨_, .inl (.inl ((k1.snoc hL).tp _ _ rx))⟩, fun D hD => ?_⟩
        have hLD : L ≠ D := fun z => by rw [← z, upd_same] at hD; cases hD
        have k2 := k1.snoc (o := .lst [.int 0]) hL
        refine lc_it (walk_tup (xs := xs)) (fun i H' => ∃ ns : List Int, H' D = some (.lst (ns.map V.int)) ∧ ns.length = i ∧ Kp [] (upd H1 L (.lst [.int 0])) H') ⟨[], upd_same, rfl, Kp.new hD⟩ ?_ ?_ ?_
        · rintro i H2 hi ⟨ns, h2, l2, k3⟩
          exact .inl (.inl ((k2.trans k3).tp _ _ rx))
        · rintro i u H2 H3 hi ⟨ns, h2, l2, k3⟩ ⟨rfl, hu1⟩
          obtain ⟨e, he, du⟩ := ax.getV hu1
          refine ⟨rfl, _, rfl, S, u, e, rfl, du.keep (k2.trans k3), fun v H4 k4 => ?_⟩
          refine ⟨_, k4.at_ _ _ h2 (fun z => nomatch z), by rw [List.length_map, l2]; exact Nat.lt_of_lt_of_le hi (Nat.le_trans lx (by decide)), ns ++ [v], by rw [List.map_append]; exact upd_same, by simp [l2], (k3.trans k4).late hD⟩
        · rintro H2 ⟨ns, h2, l2, k3⟩
          have hL2 : H2 L = some (.lst [.int 0]) := k3.at_ _ _ upd_same (fun z => nomatch z)
          refine ⟨L, D, _, _, rfl, rfl, hL2, h2, by rw [List.length_map, l2]; show 1 + xs.length ≤ 16777216; omega, fun p5 hp5 => ?_⟩
          refine ⟨p5, 0 :: ns, rfl, SqL.of upd_same, Nat.succ_pos _, fun v _ _ => ⟨_, _, rfl, rfl, ?_⟩⟩
          exact k _ _ ((k2.trans k3).snoc hp5)
theorem ok_deep (B : Bi mg) (D : Dfn K mg "_law_deep" s__law_deep ["_law_thing"]) : ∀ n : Nat, Has P w K mg base CX0 "_law_deep" ["_law_thing"] (n + 1) (spDeep n)
  | 0 => step_deep B D 0 D.none
  | n + 1 => step_deep B D (n + 1) (ok_deep B D n)
end
end Fm

namespace Fm
open PySem PySem.Spec PyProof.Rows L2
/-! ### rows by their data: cut, joined, repeated -/
def RwE (t : Bool) (H : Hp) (p : Addr) (xs : List V) : Prop := if t = true then H p = some (.tup xs) else H p = some (.lst xs)
def RwK (t : Bool) (H : Hp) (p : Addr) (xs : List V) : Prop := if t = true then H p = some (.tup xs) else Rd H p (.lst xs)
theorem RwE.k {t : Bool} {H : Hp} {p : Addr} {xs : List V} (h : RwE t H p xs) : RwK t H p xs := by
  cases t
  · exact .inl h
  · exact h
theorem RwE.keep {t : Bool} {H H' : Hp} {p : Addr} {xs : List V} (h : RwE t H p xs) (k : Kp [] H H') : RwE t H' p xs := by
  cases t
  · exact k.at_ _ _ h (fun z => nomatch z)
  · exact k.tp _ _ h
theorem RwK.keep {t : Bool} {H H' : Hp} {p : Addr} {xs : List V} (h : RwK t H p xs) (k : Kp [] H H') : RwK t H' p xs := by
  cases t
  · exact k.rd (fun z => nomatch z) h
  · exact k.tp _ _ h
/-- a row, as it may come: its data ds -/
def Ry (b : Addr) (t : Bool) (H : Hp) (m : Nat) (v : V) (ds : List PyData) : Prop := ∃ p xs, v = .ref p ∧ p ≠ b ∧ RwK t H p xs ∧ DtAll (· ≠ b) true H m xs ds
/-- a row that nothing holds -/
def Rx (b : Addr) (t : Bool) (H : Hp) (m : Nat) (v : V) (ds : List PyData) : Prop := ∃ p xs, v = .ref p ∧ p ≠ b ∧ RwE t H p xs ∧ DtAll (· ≠ b) true H m xs ds
theorem Rx.y {b : Addr} {t : Bool} {H : Hp} {m : Nat} {v : V} {ds : List PyData} (h : Rx b t H m v ds) : Ry b t H m v ds := let ⟨p, xs, a, c, d, e⟩ := h; ⟨p, xs, a, c, d.k, e⟩
theorem Rx.keep {b : Addr} {t : Bool} {H H' : Hp} {m : Nat} {v : V} {ds : List PyData} (h : Rx b t H m v ds) (k : Kp [] H H') : Rx b t H' m v ds := let ⟨p, xs, a, c, d, e⟩ := h; ⟨p, xs, a, c, d.keep k, e.keep k⟩
theorem Ry.keep {b : Addr} {t : Bool} {H H' : Hp} {m : Nat} {v : V} {ds : List PyData} (h : Ry b t H m v ds) (k : Kp [] H H') : Ry b t H' m v ds := let ⟨p, xs, a, c, d, e⟩ := h; ⟨p, xs, a, c, d.keep k, e.keep k⟩
def mkR (t : Bool) (ds : List PyData) : PyData := if t = true then .tuple ds else .list ds
theorem wt_mkR (t : Bool) (ds : List PyData) : wt (mkR t ds) = 1 + wts ds := by cases t <;> simp [mkR, wt]
theorem Ry.dt {b : Addr} {t : Bool} {H : Hp} {m : Nat} {v : V} {ds : List PyData} (h : Ry b t H m v ds) (hl : ds.length ≤ 1000000) : Dt (· ≠ b) true H (m + 1) v (mkR t ds) := by
  obtain ⟨p, xs, rfl, a, c, d⟩ := h
  cases t
  · exact .lst c ⟨by rw [d.len]; exact hl, a⟩ d
  · exact .tup c ⟨by rw [d.len]; exact hl, a⟩ d
theorem Dt.ry {b : Addr} {H : Hp} {n : Nat} {x : V} {d : PyData} (h : Dt (· ≠ b) true H n x d) (hd : isRowD d = true) : ∃ ds m, n = m + 1 ∧ d = mkR (isT d) ds ∧ Ry b (isT d) H m x ds := by
  obtain ⟨ds, m, p, xs, rfl, rfl, _, _, sp, ax, hh⟩ := h.row hd
  rcases hh with ⟨rfl, _, r⟩ | ⟨rfl, _, r⟩
  · exact ⟨ds, m, rfl, rfl, p, xs, rfl, sp, r, ax⟩
  · exact ⟨ds, m, rfl, rfl, p, xs, rfl, sp, r, ax⟩
def cutD (ds : List PyData) (lo hi : Option Int) : List PyData := (ds.drop (HT.sIx ds.length 0 lo)).take (HT.sIx ds.length ds.length hi - HT.sIx ds.length 0 lo)
theorem wts_cut (ds : List PyData) (lo hi : Option Int) : wts (cutD ds lo hi) ≤ wts ds := Nat.le_trans (wts_take _ _) (wts_drop _ _)
theorem len_cut (ds : List PyData) (lo hi : Option Int) : (cutD ds lo hi).length ≤ ds.length := by
  unfold cutD
  rw [List.length_take, List.length_drop]; omega
theorem DtAll.drop {S : Addr → Prop} {q : Bool} {H : Hp} : ∀ {n : Nat} {v : List V} {d : List PyData}, DtAll S q H n v d → ∀ i : Nat, DtAll S q H n (v.drop i) (d.drop i)
  | _, _, _, .nil, i => by rw [List.drop_nil, List.drop_nil]; exact .nil
  | _, _, _, .cons a b, 0 => .cons a b
  | _, _, _, .cons a b, i + 1 => DtAll.drop b i
theorem DtAll.cut {S : Addr → Prop} {q : Bool} {H : Hp} {n : Nat} {v : List V} {d : List PyData} (h : DtAll S q H n v d) (lo hi : Option Int) : DtAll S q H n (cutV v lo hi) (cutD d lo hi) := by
  unfold cutV cutD
  rw [h.len]
  exact (h.drop _).take _
theorem DtAll.rep {S : Addr → Prop} {q : Bool} {H : Hp} {n : Nat} {v : List V} {d : List PyData} (h : DtAll S q H n v d) : ∀ k : Nat, DtAll S q H n (List.replicate k v).flatten (List.replicate k d).flatten
  | 0 => .nil
  | k + 1 => by rw [List.replicate_succ, List.replicate_succ, List.flatten_cons, List.flatten_cons]; exact h.append (h.rep k)
section
variable {K : PySem.W.Frag} {H : Hp} {b : Addr} {t : Bool} {m : Nat} {Q : VK}
theorem new_b {o : HO} {p : Addr} (hb : H b = some o) (hp : H p = none) : p ≠ b := fun z => by rw [z, hb] at hp; cases hp
theorem sl_rx {o : HO} {v : V} {ds : List PyData} {lo hi : Option Int} (hb : H b = some o) (h : Ry b t H m v ds) (q : ∀ v' H', Kp [] H H' → Ry b t H' m v' (cutD ds lo hi) → (t = false → Rx b t H' m v' (cutD ds lo hi)) → Q v' H') : rSlL K v lo hi H Q ∨ rSlA K v lo hi H Q := by
  obtain ⟨p, xs, rfl, a, c, d⟩ := h
  cases t
  · refine .inl ⟨p, xs, rfl, .inl c, fun r hr => ?_⟩
    have z : Rx b false (upd H r (.lst (cutV xs lo hi))) m (.ref r) (cutD ds lo hi) := ⟨r, _, rfl, new_b hb hr, upd_same, (d.cut lo hi).keep (Kp.new hr)⟩
    exact q _ _ (Kp.new hr) z.y fun _ => z
  · refine .inr ⟨p, xs, rfl, .inl (.inl c), fun hc => ?_, fun _ r hr => ?_⟩
    · have e : cutV xs lo hi = xs := by
        unfold cutV
        rw [hc.1, hc.2, List.drop_zero, Nat.sub_zero, List.take_length]
      exact q _ _ (Kp.refl _) ⟨p, xs, rfl, a, c, by have := d.cut lo hi; rw [e] at this; exact this⟩ fun z => nomatch z
    · exact q _ _ (Kp.new hr) ⟨r, _, rfl, new_b hb hr, upd_same, (d.cut lo hi).keep (Kp.new hr)⟩ fun z => nomatch z
theorem cat_rx {o : HO} {v u : V} {ds es : List PyData} (hb : H b = some o) (h : Rx b t H m v ds) (h' : Rx b t H m u es) (hl : ds.length + es.length ≤ 1000000) (q : ∀ v' H', Kp [] H H' → Rx b t H' m v' (ds ++ es) → Q v' H') : rCat v u H Q ∨ rCatA K v u H Q := by
  obtain ⟨p, xs, rfl, a, c, d⟩ := h
  obtain ⟨p', xs', rfl, a', c', d'⟩ := h'
  have hl' : xs.length + xs'.length ≤ sizeLine := by rw [d.len, d'.len]; exact Nat.le_trans hl (by decide)
  cases t
  · exact .inl ⟨p, p', xs, xs', rfl, rfl, c, c', hl', fun r hr => q _ _ (Kp.new hr) ⟨r, _, rfl, new_b hb hr, upd_same, (d.append d').keep (Kp.new hr)⟩⟩
  · refine .inr ⟨p, p', xs, xs', rfl, rfl, .inl (.inl c), .inl (.inl c'), hl', fun e => ?_, fun _ e => ?_, fun _ _ r hr => q _ _ (Kp.new hr) ⟨r, _, rfl, new_b hb hr, upd_same, (d.append d').keep (Kp.new hr)⟩⟩
    · exact q _ _ (Kp.refl _) ⟨p', xs', rfl, a', c', by have := d.append d'; rw [e, List.nil_append] at this; exact this⟩
    · exact q _ _ (Kp.refl _) ⟨p, xs, rfl, a, c, by have := d.append d'; rw [e, List.append_nil] at this; exact this⟩
theorem rep_rx {o : HO} {v : V} {ds : List PyData} {k : Int} (hb : H b = some o) (h : Ry b t H m v ds) (h1 : 1 ≤ k) (h2 : k ≤ 1000) (hl : ds.length ≤ 1000) (q : ∀ v' H', Kp [] H H' → Ry b t H' m v' (List.replicate k.toNat ds).flatten → (t = false → Rx b t H' m v' (List.replicate k.toNat ds).flatten) → Q v' H') : rRepG K v (.int k) H Q := by
  obtain ⟨p, xs, rfl, a, c, d⟩ := h
  refine ⟨p, k, xs, rfl, rfl, h1, h2, by rw [d.len]; exact hl, ?_⟩
  cases t
  · refine .inl ⟨.inl c, fun r hr => ?_⟩
    have z : Rx b false (upd H r (.lst (List.replicate k.toNat xs).flatten)) m (.ref r) (List.replicate k.toNat ds).flatten := ⟨r, _, rfl, new_b hb hr, upd_same, (d.rep _).keep (Kp.new hr)⟩
    exact q _ _ (Kp.new hr) z.y fun _ => z
  · refine .inr ⟨.inl (.inl c), fun hc => ?_, fun _ _ r hr => q _ _ (Kp.new hr) ⟨r, _, rfl, new_b hb hr, upd_same, (d.rep _).keep (Kp.new hr)⟩ fun z => nomatch z⟩
    refine q _ _ (Kp.refl _) ⟨p, xs, rfl, a, c, ?_⟩ fun z => nomatch z
    have := d.rep k.toNat
    rcases hc with e | e
    · rw [e] at this ⊢
      rw [show (List.replicate k.toNat ([] : List V)).flatten = [] by simp] at this
      exact this
    · rw [e] at this ⊢
      rw [show (List.replicate (1 : Int).toNat xs).flatten = xs by simp] at this
      exact this
theorem Ry.x {v : V} {ds : List PyData} (h : Ry b t H m v ds) (h' : t = false → Rx b t H m v ds) : Rx b t H m v ds := by
  cases t
  · exact h' rfl
  · exact h
end
end Fm

namespace Fm
open PySem PySem.Spec PyProof.Rows L2
def spONum : Sp := fun vs H Q _ => ∃ (b c : Addr) (i : Int), vs = [.ref b, .int i] ∧ Bag H b c ∧ ∀ (j : Int) H', Bag H' b c → Kp [b] H H' → Q (.int j) H'
def spOStr : Sp := fun vs H Q _ => ∃ (b c : Addr) (w : Str), vs = [.ref b, .str w] ∧ Bag H b c ∧ w.length ≤ 100000 ∧ ∀ (w' : Str) H', Bag H' b c → Kp [b] H H' → w'.length ≤ w.length + 1 → Q (.str w') H'
def spORow : Sp := fun vs H Q _ => ∃ (b c : Addr) (x : V) (n : Nat) (d : PyData), vs = [.ref b, x] ∧ Bag H b c ∧ Dt (· ≠ b) true H n x d ∧ isRowD d = true ∧ wt d ≤ 1000 ∧
  ∀ v e H', Bag H' b c → Kp [b] H H' → Dt (· ≠ b) true H' n v e → wt e ≤ 15 * wt d → Q v H'
theorem Ry.bag {b : Addr} {t : Bool} {H H' : Hp} {m : Nat} {v : V} {ds : List PyData} (h : Ry b t H m v ds) (k : Kp [b] H H') : Ry b t H' m v ds := by
  obtain ⟨p, xs, e, a, c, d⟩ := h
  refine ⟨p, xs, e, a, ?_, d.keepS (fun x o hx e => k.at_ _ _ e (by simpa using hx)) fun _ h => h⟩
  cases t
  · exact k.rd (by simpa using a) c
  · exact k.tp _ _ c
theorem cutS_hi (w : Str) (n : Nat) : (cutS w none (some (n : Int))).length ≤ n := by
  unfold cutS
  rw [show HT.sIx w.length w.length (some (n : Int)) = min n w.length from HT.sIx_nat _ _ n, HT.sIx_none, List.drop_zero, Nat.sub_zero]
  change (List.take (min n w.length) w.cps.toList).toArray.size ≤ n
  simp
  omega
theorem cutS_lo (w : Str) (n : Nat) : (cutS w (some (n : Int)) none).length ≤ w.length - n := by
  unfold cutS
  rw [show HT.sIx w.length 0 (some (n : Int)) = min n w.length from HT.sIx_nat _ _ n, HT.sIx_none]
  change (List.take (w.length - min n w.length) (List.drop (min n w.length) w.cps.toList)).toArray.size ≤ w.length - n
  simp
  omega
theorem one_len (c : Nat) : (⟨#[c]⟩ : Str).length = 1 := rfl
section
variable {P : Program} {w : World} {K : PySem.W.Frag} {mg : Str → Option Value} {base : Heap}
theorem ok_onum (B : Bi mg) (D : Dfn K mg "_law_other_number" s__law_other_number ["_law_bag_here", "_law_number"]) (G_pick : Has P w K mg base CX0 "_law_pick" ["_law_bag_here", "_law_many"] 1 spPick) :
    Has P w K mg base CX0 "_law_other_number" ["_law_bag_here", "_law_number"] 2 spONum := by
  refine D.has sc__law_other_number (fun vs H Q E h => ?_) (fun f cdv A outer s H vs Q E hr h => ?_)
  · obtain ⟨b, c, i, rfl, _⟩ := h; rfl
  · obtain ⟨b, c, i, rfl, BG, k⟩ := h
    refine ⟨_, (pss_cons (ps_set (i := 2) sc__law_other_number.nd rfl (by first | exact Or.inl rfl | exact Or.inr rfl) (pe_lst (pa_cons (pe_op op_add (pv 1) pe_int) (pa_cons (pe_op op_sub (pv 1) pe_int) (pa_cons pe_int (pa_cons (pe_op op_pow pe_int pe_int) (pa_cons (pe_op op_sub pe_int (pe_op op_pow pe_int pe_int)) (pa_cons (pe_op op_add (pe_op op_pow pe_int pe_int) pe_int) (pa_cons (pe_op op_sub (pe_op op_sub pe_int (pe_op op_pow pe_int pe_int)) pe_int) (pa_cons pe_int (pa_cons (pe_un un_neg pe_int) (pa_cons pe_int (pa_cons (pe_un un_neg pe_int) pa_nil)))))))))))))
  (pss_one (ps_ret (pe_ix ix_list (pv 2) (pe_has G_pick hr (pa_cons (pv 0) (pa_cons (pe_callB call_len (by rfl) B.len PySem.boot_len (pa_cons (pv 2) pa_nil)) pa_nil))) (fun _ _ => rfl))))), ?_⟩
    refine ⟨_, rfl, _, _, rfl, rfl, _, rfl, _, _, rfl, rfl, ?_⟩
    refine ⟨_, _, rfl, rfl, ⟨by decide, by decide, by decide⟩, ?_⟩
    refine ⟨_, _, rfl, rfl, ⟨by decide, by decide, by decide⟩, _, _, rfl, rfl, ?_⟩
    refine ⟨_, _, rfl, rfl, ⟨by decide, by decide, by decide⟩, _, _, rfl, rfl, ?_⟩
    refine ⟨_, _, rfl, rfl, ⟨by decide, by decide, by decide⟩, _, _, rfl, rfl, _, _, rfl, rfl, ?_⟩
    refine ⟨_, rfl, _, rfl, by show 11 ≤ sizeLine; decide, fun l hl => ?_⟩
    have k1 : Kp [] H (upd H l (.lst ([i + 1, i - 1, 0, 10 ^ 9, 0 - 10 ^ 9, 10 ^ 9 + 1, 0 - 10 ^ 9 - 1, 1000, -1000, 1001, -1001].map V.int))) := Kp.new hl
    have B1 := BG.keep0 k1
    have e1 : upd H l (.lst ([i + 1, i - 1, 0, 10 ^ 9, 0 - 10 ^ 9, 10 ^ 9 + 1, 0 - 10 ^ 9 - 1, 1000, -1000, 1001, -1001].map V.int)) l = _ := upd_same
    refine ⟨_, rfl, _, rfl, _, rfl, _, _, rfl, .inl ⟨_, SqL.of e1, rfl⟩, ?_⟩
    refine ⟨b, c, 11, rfl, B1, by decide, by decide, fun r H2 r0 r1 B2 k2 => ?_⟩
    have e2 := k2.at_ _ _ e1 (by simpa using (BG.new hl).1)
    obtain ⟨u, hu⟩ : ∃ u, ([i + 1, i - 1, 0, 10 ^ 9, 0 - 10 ^ 9, 10 ^ 9 + 1, 0 - 10 ^ 9 - 1, 1000, -1000, 1001, -1001] : List Int)[r.toNat]? = some u := ⟨_, List.getElem?_eq_getElem (by show r.toNat < 11; omega)⟩
    refine ⟨l, _, r, .int u, rfl, rfl, SqL.of e2, atI_of r0 (by rw [List.getElem?_map, hu]; rfl), ?_⟩
    exact k u H2 B2 (k1.zero.trans k2)
theorem ok_ostr (B : Bi mg) (D : Dfn K mg "_law_other_string" s__law_other_string ["_law_bag_here", "_law_word_here"]) (G_pick : Has P w K mg base CX0 "_law_pick" ["_law_bag_here", "_law_many"] 1 spPick) :
    Has P w K mg base CX0 "_law_other_string" ["_law_bag_here", "_law_word_here"] 2 spOStr := by
  refine D.has sc__law_other_string (fun vs H Q E h => ?_) (fun f cdv A outer s H vs Q E hr h => ?_)
  · obtain ⟨b, c, w, rfl, _⟩ := h; rfl
  · obtain ⟨b, c, w, rfl, BG, hw, k⟩ := h
    refine ⟨_, (pss_cons (ps_set (i := 2) sc__law_other_string.nd rfl (by first | exact Or.inl rfl | exact Or.inr rfl) pe_str)
  (pss_cons (ps_set (i := 3) sc__law_other_string.nd rfl (by first | exact Or.inl rfl | exact Or.inr rfl) (pe_ix ix_str (pv 2) (pe_has G_pick hr (pa_cons (pv 0) (pa_cons (pe_callB call_len (by rfl) B.len PySem.boot_len (pa_cons (pv 2) pa_nil)) pa_nil))) (fun _ _ => rfl)))
  (pss_cons (ps_set (i := 4) sc__law_other_string.nd rfl (by first | exact Or.inl rfl | exact Or.inr rfl) (pe_has G_pick hr (pa_cons (pv 0) (pa_cons (pe_op op_add (pe_callB call_len (by rfl) B.len PySem.boot_len (pa_cons (pv 1) pa_nil)) pe_int) pa_nil))))
  (pss_one (ps_ret (pe_ix ix_list (pe_lst (pa_cons (pe_op op_add_str (pe_op op_add_str (pe_slice sl_str (pv 1) po_none (po_some (pv 4))) (pv 3)) (pe_slice sl_str (pv 1) (po_some (pv 4)) po_none)) (pa_cons (pe_op op_add_str (pe_slice sl_str (pv 1) po_none (po_some (pv 4))) (pe_slice sl_str (pv 1) (po_some (pe_op op_add (pv 4) pe_int)) po_none)) (pa_cons (pe_op op_add_str (pe_op op_add_str (pe_slice sl_str (pv 1) po_none (po_some (pv 4))) (pv 3)) (pe_slice sl_str (pv 1) (po_some (pe_op op_add (pv 4) pe_int)) po_none)) pa_nil)))) (pe_has G_pick hr (pa_cons (pv 0) (pa_cons pe_int pa_nil))) (fun _ _ => rfl))))))), ?_⟩
    have hL : ("abcdefghijklmnopqrstuvwxyz_A1 " : Str).cps.toList.length = 30 := by decide +kernel
    have hL' : ("abcdefghijklmnopqrstuvwxyz_A1 " : Str).length = 30 := by decide +kernel
    refine ⟨_, rfl, _, rfl, _, rfl, _, _, rfl, ⟨by rw [hL']; decide, rfl⟩, ?_⟩
    rw [hL']
    refine ⟨b, c, 30, rfl, BG, by decide, by decide, fun a1 H1 a10 a11 B1 k1 => ?_⟩
    obtain ⟨l, hl⟩ : ∃ l, ("abcdefghijklmnopqrstuvwxyz_A1 " : Str).cps.toList[a1.toNat]? = some l := ⟨_, List.getElem?_eq_getElem (by rw [hL]; omega)⟩
    refine ⟨_, a1, l, rfl, rfl, by rw [hL']; decide, atI_of a10 hl, ?_⟩
    refine ⟨_, rfl, _, rfl, _, _, rfl, ⟨Nat.le_trans hw (by decide), rfl⟩, _, _, rfl, rfl, b, c, _, rfl, B1, by omega, by omega, fun a2 H2 a20 a21 B2 k2 => ?_⟩
    obtain ⟨n, rfl⟩ := Int.eq_ofNat_of_zero_le a20
    have hz : w.length ≤ sizeLine := Nat.le_trans hw (by decide)
    have c1 := cutS_hi w n
    have c2 := cutS_lo w n
    have c3 : (cutS w (some ((n : Int) + 1)) none).length ≤ w.length - (n + 1) := cutS_lo w (n + 1)
    have sz : sizeLine = 16777216 := rfl
    have o1 := one_len l
    have ap := Str.length_append
    refine ⟨_, rfl, _, rfl, _, rfl, w, rfl, hz, _, rfl, _, _, rfl, rfl, by omega, _, rfl, _, rfl, _, rfl, w, rfl, hz, _, _, rfl, rfl, by rw [ap]; omega, ?_⟩
    refine ⟨_, rfl, _, rfl, _, rfl, w, rfl, hz, _, rfl, _, rfl, _, _, rfl, rfl, _, rfl, w, rfl, hz, _, _, rfl, rfl, by omega, ?_⟩
    refine ⟨_, rfl, _, rfl, _, rfl, w, rfl, hz, _, rfl, _, _, rfl, rfl, by omega, _, rfl, _, rfl, _, _, rfl, rfl, _, rfl, w, rfl, hz, _, _, rfl, rfl, by rw [ap]; omega, ?_⟩
    refine ⟨by show 3 ≤ sizeLine; decide, fun p hp => ?_⟩
    have k3 := Kp.new (ms := [b]) (o := .lst ([cutS w none (some (n : Int)) ++ ⟨#[l]⟩ ++ cutS w (some (n : Int)) none, cutS w none (some (n : Int)) ++ cutS w (some ((n : Int) + 1)) none, cutS w none (some (n : Int)) ++ ⟨#[l]⟩ ++ cutS w (some ((n : Int) + 1)) none].map V.str)) hp
    have B3 := B2.keep0 (Kp.new (o := .lst ([cutS w none (some (n : Int)) ++ ⟨#[l]⟩ ++ cutS w (some (n : Int)) none, cutS w none (some (n : Int)) ++ cutS w (some ((n : Int) + 1)) none, cutS w none (some (n : Int)) ++ ⟨#[l]⟩ ++ cutS w (some ((n : Int) + 1)) none].map V.str)) hp)
    refine ⟨_, rfl, b, c, 3, rfl, B3, by decide, by decide, fun a3 H3 a30 a31 B4 k4 => ?_⟩
    have e3 := k4.at_ _ _ (upd_same (H := H2) (a := p)) (by simpa using (B2.new hp).1)
    obtain ⟨u, hu⟩ : ∃ u, [cutS w none (some (n : Int)) ++ ⟨#[l]⟩ ++ cutS w (some (n : Int)) none, cutS w none (some (n : Int)) ++ cutS w (some ((n : Int) + 1)) none, cutS w none (some (n : Int)) ++ ⟨#[l]⟩ ++ cutS w (some ((n : Int) + 1)) none][a3.toNat]? = some u := ⟨_, List.getElem?_eq_getElem (by show a3.toNat < 3; omega)⟩
    refine ⟨p, _, a3, .str u, rfl, rfl, SqL.of e3, atI_of a30 (by have := congrArg (Option.map V.str) hu; rw [← List.getElem?_map] at this; exact this), ?_⟩
    refine k u H3 B4 (((k1.trans k2).trans k3).trans k4) ?_
    have hm := List.mem_of_getElem? hu
    simp only [List.mem_cons, List.not_mem_nil, or_false] at hm
    rcases hm with rfl | rfl | rfl <;> simp only [ap] <;> omega
theorem ok_orow (B : Bi mg) (Zm : mg "min" = none) (D : Dfn K mg "_law_other_row" s__law_other_row ["_law_bag_here", "_law_row_here"]) (G_pick : Has P w K mg base CX0 "_law_pick" ["_law_bag_here", "_law_many"] 1 spPick) :
    Has P w K mg base CX0 "_law_other_row" ["_law_bag_here", "_law_row_here"] 2 spORow := by
  refine D.has sc__law_other_row (fun vs H Q E h => ?_) (fun f cdv A outer s H vs Q E hr h => ?_)
  · obtain ⟨b, c, x, n, d, rfl, _⟩ := h; rfl
  · obtain ⟨b, c, x, n, d, rfl, BG, hx, hd, hw, k⟩ := h
    refine ⟨_, (pss_cons (ps_set (i := 2) sc__law_other_row.nd rfl (by first | exact Or.inl rfl | exact Or.inr rfl) (pe_has G_pick hr (pa_cons (pv 0) (pa_cons (pe_op op_add (pe_callB call_len (by rfl) B.len PySem.boot_len (pa_cons (pv 1) pa_nil)) pe_int) pa_nil))))
  (pss_cons (ps_set (i := 3) sc__law_other_row.nd rfl (by first | exact Or.inl rfl | exact Or.inr rfl) (pe_has G_pick hr (pa_cons (pv 0) (pa_cons (pe_op op_add (pe_callB call_len (by rfl) B.len PySem.boot_len (pa_cons (pv 1) pa_nil)) pe_int) pa_nil))))
  (pss_cons (ps_set (i := 4) sc__law_other_row.nd rfl (by first | exact Or.inl rfl | exact Or.inr rfl) (pe_has G_pick hr (pa_cons (pv 0) (pa_cons pe_int pa_nil))))
  (pss_cons (ps_set (i := 5) sc__law_other_row.nd rfl (by first | exact Or.inl rfl | exact Or.inr rfl) (pe_has G_pick hr (pa_cons (pv 0) (pa_cons pe_int pa_nil))))
  (pss_cons (ps_if (pt_cmpR op_eq (pv 5) pe_int (nomark _))
  (pss_one (ps_ret (pe_op (op_cat.or op_catA) (pe_slice (sl_list.or sl_tupA) (pv 1) po_none (po_some (pv 2))) (pe_slice (sl_list.or sl_tupA) (pv 1) (po_some (pe_op op_add (pv 2) pe_int)) po_none))))
  pss_nil)
  (pss_cons (ps_if (pt_cmpR op_eq (pv 5) pe_int (nomark _))
  (pss_one (ps_ret (pe_op (op_cat.or op_catA) (pe_op (op_cat.or op_catA) (pe_slice (sl_list.or sl_tupA) (pv 1) po_none (po_some (pv 2))) (pe_op op_repG (pe_slice (sl_list.or sl_tupA) (pv 1) (po_some (pv 2)) (po_some (pe_op op_add (pv 2) pe_int))) (pe_op op_add pe_int (pv 4)))) (pe_slice (sl_list.or sl_tupA) (pv 1) (po_some (pe_op op_add (pv 2) pe_int)) po_none))))
  pss_nil)
  (pss_cons (ps_if (pt_cmpR op_eq (pv 5) pe_int (nomark _))
  (pss_one (ps_ret (pe_op (op_cat.or op_catA) (pe_op (op_cat.or op_catA) (pe_slice (sl_list.or sl_tupA) (pv 1) po_none (po_some (pe_callB (call_min2 rfl) (by rfl) Zm (by decide +kernel) (pa_cons (pv 2) (pa_cons (pv 3) pa_nil))))) (pe_slice (sl_list.or sl_tupA) (pv 1) (po_some (pe_callB (call_max2 rfl) (by rfl) B.max (by decide +kernel) (pa_cons (pv 2) (pa_cons (pv 3) pa_nil)))) po_none)) (pe_slice (sl_list.or sl_tupA) (pv 1) (po_some (pe_callB (call_min2 rfl) (by rfl) Zm (by decide +kernel) (pa_cons (pv 2) (pa_cons (pv 3) pa_nil)))) (po_some (pe_callB (call_max2 rfl) (by rfl) B.max (by decide +kernel) (pa_cons (pv 2) (pa_cons (pv 3) pa_nil))))))))
  pss_nil)
  (pss_cons (ps_if (pt_cmpR op_eq (pv 5) pe_int (nomark _))
  (pss_one (ps_ret (pe_slice (sl_list.or sl_tupA) (pe_op op_repG (pv 1) (pe_op op_add pe_int (pv 4))) po_none (po_some pe_int))))
  pss_nil)
  (pss_cons (ps_if (pt_val (pe_callB call_isi (by rfl) B.isinstance (by decide +kernel) (pa_cons (pv 1) (pa_cons (pe_bltn (v := .ty "tuple") (by rfl) B.tuple (by decide +kernel) rfl) pa_nil))))
  (pss_one (ps_ret (pe_callTy call_list_of (by rfl) B.list (by decide +kernel) (pa_cons (pv 1) pa_nil))))
  pss_nil)
  (pss_one (ps_ret (pe_callTy call_tuple_of (by rfl) B.tuple (by decide +kernel) (pa_cons (pv 1) pa_nil))))))))))))), ?_⟩
    obtain ⟨ds, m, rfl, ed, hy⟩ := hx.ry hd
    have hwd : 1 + wts ds ≤ 1000 := by rw [ed, wt_mkR] at hw; exact hw
    have hwe : wt d = 1 + wts ds := by rw [ed, wt_mkR]
    have hlen := wts_len ds
    have hlenv : ∀ {H : Hp} {t : Bool}, Ry b t H m x ds → LenV K x H ds.length := fun {H t} h => by
      obtain ⟨p, xs, rfl, a, c, d⟩ := h
      rw [← d.len]
      cases t
      · exact .inl ⟨_, .inl c, rfl⟩
      · exact .inr ⟨_, .inl (.inl c), rfl⟩
    generalize hT : isT d = t at ed hy
    refine ⟨_, rfl, _, rfl, _, _, rfl, hlenv hy, _, _, rfl, rfl, b, c, _, rfl, BG, by omega, by omega, fun a1 H1 a10 a11 B1 k1 => ?_⟩
    have hy1 := hy.bag k1
    refine ⟨_, rfl, _, rfl, _, _, rfl, hlenv hy1, _, _, rfl, rfl, b, c, _, rfl, B1, by omega, by omega, fun a2 H2 a20 a21 B2 k2 => ?_⟩
    have hy2 := hy1.bag k2
    refine ⟨_, rfl, b, c, 13, rfl, B2, by decide, by decide, fun a3 H3 a30 a31 B3 k3 => ?_⟩
    have hy3 := hy2.bag k3
    refine ⟨_, rfl, b, c, 5, rfl, B3, by decide, by decide, fun a4 H4 a40 a41 B4 k4 => ?_⟩
    have hy4 := hy3.bag k4
    have kk := ((k1.trans k2).trans k3).trans k4
    obtain ⟨ob, hb⟩ := B4.someB
    have fin : ∀ v es H', Kp [] H4 H' → Ry b t H' m v es → wts es ≤ 15 * wts ds → Q v H' := fun v es H' k5 h5 w5 =>
      k v (mkR t es) H' (B4.keep0 k5) (kk.trans k5.zero) (h5.dt (by have := wts_len es; omega)) (by rw [wt_mkR]; omega)
    have fin' : ∀ v es t' H', Kp [] H4 H' → Ry b t' H' m v es → wts es ≤ 15 * wts ds → Q v H' := fun v es t' H' k5 h5 w5 =>
      k v (mkR t' es) H' (B4.keep0 k5) (kk.trans k5.zero) (h5.dt (by have := wts_len es; omega)) (by rw [wt_mkR]; omega)
    have mul2 : ∀ x : Nat, x ≤ 13 → x * wts ds ≤ 13 * wts ds := fun x h => Nat.mul_le_mul_right _ h
    refine ⟨_, rfl, rfl, _, rfl, ?_⟩
    refine ite2 (fun _ => ?_) (fun _ => ?_)
    · -- one part less
      refine ⟨_, rfl, _, rfl, _, rfl, sl_rx hb hy4 fun v1 H5 k5 r5 x5 => ?_⟩
      have hb5 := k5.at_ _ _ hb (fun z => nomatch z)
      refine ⟨_, rfl, _, rfl, _, _, rfl, rfl, _, rfl, sl_rx hb5 (hy4.keep k5) fun v2 H6 k6 r6 x6 => ?_⟩
      have hb6 := k6.at_ _ _ hb5 (fun z => nomatch z)
      have l1 := len_cut ds none (some a1)
      have l2 := len_cut ds (some (a1 + 1)) none
      refine cat_rx hb6 ((r5.x x5).keep k6) (r6.x x6) (by omega) fun v3 H7 k7 r7 => ?_
      refine fin _ _ _ ((k5.trans k6).trans k7) r7.y ?_
      have := wts_cut ds none (some a1)
      have := wts_cut ds (some (a1 + 1)) none
      rw [wts_app]; omega
    refine ⟨_, rfl, rfl, _, rfl, ?_⟩
    refine ite2 (fun _ => ?_) (fun _ => ?_)
    · -- one part more than once
      refine ⟨_, rfl, _, rfl, _, rfl, sl_rx hb hy4 fun v1 H5 k5 r5 x5 => ?_⟩
      have hb5 := k5.at_ _ _ hb (fun z => nomatch z)
      refine ⟨_, rfl, _, rfl, _, rfl, _, rfl, _, _, rfl, rfl, _, rfl, sl_rx hb5 (hy4.keep k5) fun v2 H6 k6 r6 x6 => ?_⟩
      have hb6 := k6.at_ _ _ hb5 (fun z => nomatch z)
      have l1 := len_cut ds none (some a1)
      have l2 := len_cut ds (some a1) (some (a1 + 1))
      have l3 := len_cut ds (some (a1 + 1)) none
      have w1 := wts_cut ds none (some a1)
      have w2 := wts_cut ds (some a1) (some (a1 + 1))
      have w3 := wts_cut ds (some (a1 + 1)) none
      have wr : wts (List.replicate (1 + a3).toNat (cutD ds (some a1) (some (a1 + 1)))).flatten ≤ 13 * wts ds := by
        rw [wts_rep]; exact Nat.mul_le_mul (by omega) w2
      have lr := wts_len (List.replicate (1 + a3).toNat (cutD ds (some a1) (some (a1 + 1)))).flatten
      refine ⟨_, rfl, _, _, rfl, rfl, rep_rx hb6 r6 (by omega) (by omega) (by omega) fun v3 H7 k7 r7 x7 => ?_⟩
      have hb7 := k7.at_ _ _ hb6 (fun z => nomatch z)
      refine cat_rx hb7 (((r5.x x5).keep k6).keep k7) (r7.x x7) (by omega) fun v4 H8 k8 r8 => ?_
      have hb8 := k8.at_ _ _ hb7 (fun z => nomatch z)
      refine ⟨_, rfl, _, rfl, _, _, rfl, rfl, _, rfl, sl_rx hb8 ((((hy4.keep k5).keep k6).keep k7).keep k8) fun v5 H9 k9 r9 x9 => ?_⟩
      have hb9 := k9.at_ _ _ hb8 (fun z => nomatch z)
      refine cat_rx hb9 (r8.keep k9) (r9.x x9) (by rw [List.length_append]; omega) fun v6 H10 k10 r10 => ?_
      refine fin _ _ _ (((((k5.trans k6).trans k7).trans k8).trans k9).trans k10) r10.y ?_
      rw [wts_app, wts_app]; omega
    refine ⟨_, rfl, rfl, _, rfl, ?_⟩
    refine ite2 (fun _ => ?_) (fun _ => ?_)
    · -- moved
      refine ⟨_, rfl, _, rfl, _, rfl, _, _, rfl, _, rfl, sl_rx hb hy4 fun v1 H5 k5 r5 x5 => ?_⟩
      have hb5 := k5.at_ _ _ hb (fun z => nomatch z)
      refine ⟨_, rfl, _, rfl, _, rfl, _, _, rfl, _, rfl, sl_rx hb5 (hy4.keep k5) fun v2 H6 k6 r6 x6 => ?_⟩
      have hb6 := k6.at_ _ _ hb5 (fun z => nomatch z)
      have l1 := fun lo hi => len_cut ds lo hi
      have w1 := fun lo hi => wts_cut ds lo hi
      refine cat_rx hb6 ((r5.x x5).keep k6) (r6.x x6) (Nat.le_trans (Nat.add_le_add (l1 _ _) (l1 _ _)) (by omega)) fun v3 H7 k7 r7 => ?_
      have hb7 := k7.at_ _ _ hb6 (fun z => nomatch z)
      refine ⟨_, rfl, _, rfl, _, rfl, _, _, rfl, _, rfl, _, rfl, _, rfl, _, _, rfl, _, rfl, sl_rx hb7 (((hy4.keep k5).keep k6).keep k7) fun v4 H8 k8 r8 x8 => ?_⟩
      have hb8 := k8.at_ _ _ hb7 (fun z => nomatch z)
      refine cat_rx hb8 (r7.keep k8) (r8.x x8) (by rw [List.length_append]; exact Nat.le_trans (Nat.add_le_add (Nat.add_le_add (l1 _ _) (l1 _ _)) (l1 _ _)) (by omega)) fun v5 H9 k9 r9 => ?_
      refine fin _ _ _ ((((k5.trans k6).trans k7).trans k8).trans k9) r9.y ?_
      rw [wts_app, wts_app]
      exact Nat.le_trans (Nat.add_le_add (Nat.add_le_add (w1 _ _) (w1 _ _)) (w1 _ _)) (by omega)
    refine ⟨_, rfl, rfl, _, rfl, ?_⟩
    refine ite2 (fun _ => ?_) (fun _ => ?_)
    · -- repeated
      have wr : wts (List.replicate (1 + a3).toNat ds).flatten ≤ 13 * wts ds := by
        rw [wts_rep]; exact Nat.mul_le_mul_right _ (by omega)
      refine ⟨_, rfl, _, rfl, _, _, rfl, rfl, rep_rx hb hy4 (by omega) (by omega) (by omega) fun v3 H5 k5 r5 x5 => ?_⟩
      have hb5 := k5.at_ _ _ hb (fun z => nomatch z)
      refine ⟨_, rfl, sl_rx hb5 r5 fun v1 H6 k6 r6 x6 => ?_⟩
      refine fin _ _ _ (k5.trans k6) r6 ?_
      exact Nat.le_trans (wts_cut _ _ _) (by omega)
    · have hx4 : Dt (· ≠ b) true H4 (m + 1) x d := hx.keepS (fun a o ha e => kk.at_ _ _ e (by simpa using ha)) fun _ h => h
      refine ⟨_, rfl, _, _, _, _, _, rfl, .ty _, hx4.ty, kit_ty (kb_tuple _), _, rfl, ?_⟩
      obtain ⟨p, xs, rfl, a, c', d'⟩ := hy4
      cases t
      · rw [hT]
        refine iteF ⟨_, rfl, p, xs, rfl, .inl ⟨.inl c', fun r hr => ?_⟩⟩
        exact fin' _ ds true _ (Kp.new hr) ⟨r, xs, rfl, new_b hb hr, upd_same, d'.keep (Kp.new hr)⟩ (by omega)
      · rw [hT]
        refine iteT ⟨_, rfl, p, xs, rfl, .inr (.inl (.inl c')), fun r hr => ?_⟩
        exact fin' _ ds false _ (Kp.new hr) ⟨r, xs, rfl, new_b hb hr, .inl upd_same, d'.keep (Kp.new hr)⟩ (by omega)
end
end Fm

namespace Fm
open PySem PySem.Spec PyProof.Rows L2
theorem Dt.bag {b : Addr} {q : Bool} {H H' : Hp} {n : Nat} {v : V} {d : PyData} (h : Dt (· ≠ b) q H n v d) (k : Kp [b] H H') : Dt (· ≠ b) q H' n v d := h.keepS (fun x o hx e => k.at_ _ _ e (by simpa using hx)) fun _ h => h
theorem and_e {c1 c2 : Bool} {T E X : Prop} (hX : (if c2 = true then T else E) → X) (t : c1 = true → c2 = true → T) (e : E) : if c1 = true then X else (if false = true then T else E) := by
  cases c1
  · exact e
  · refine hX ?_
    cases c2
    · exact e
    · exact t rfl rfl
def spSpoil (N : Nat) : Sp := fun vs H Q _ => ∃ (n : Nat) (b c nm : Addr) (x : V) (d : PyData) (ws : List Str), vs = [.ref b, x, .ref nm] ∧ 3 ≤ n ∧ n ≤ N ∧ Bag H b c ∧ Dt (· ≠ b) true H n x d ∧ wt d ≤ 1000 ∧ H nm = some (.lst (ws.map V.str)) ∧ nm ≠ b ∧ ws.length ≤ 1000 ∧ (∀ w ∈ ws, w.length ≤ 8) ∧
  ∀ v e H', Bag H' b c → Kp [b] H H' → Dt (· ≠ b) true H' (2 * n) v e → wt e ≤ 16 * wt d + 10 → Q v H'
section
variable {P : Program} {w : World} {K : PySem.W.Frag} {mg : Str → Option Value} {base : Heap}
theorem ok_spoiled (B : Bi mg) (D : Dfn K mg "_law_spoiled" s__law_spoiled ["_law_bag_here", "_law_thing", "_law_names"]) (N : Nat) (hN2 : N ≤ 100) (G_pick : Has P w K mg base CX0 "_law_pick" ["_law_bag_here", "_law_many"] 1 spPick)
    (G_places : Has P w K mg base CX0 "_law_places" ["_law_thing", "_law_path"] (N + 1) (spPlaces N)) (G_at : Has P w K mg base CX0 "_law_at" ["_law_thing", "_law_path"] 1 spAt) (G_deep : Has P w K mg base CX0 "_law_deep" ["_law_thing"] (N + 1) (spDeep N))
    (G_odd : Has P w K mg base CX0 "_law_odd" ["_law_bag_here"] 2 spOddW) (G_other_row : Has P w K mg base CX0 "_law_other_row" ["_law_bag_here", "_law_row_here"] 2 spORow) (G_other_string : Has P w K mg base CX0 "_law_other_string" ["_law_bag_here", "_law_word_here"] 2 spOStr)
    (G_other_number : Has P w K mg base CX0 "_law_other_number" ["_law_bag_here", "_law_number"] 2 spONum) (G_integer : Has P w K mg base CX0 "_law_integer" ["_law_thing"] 1 spInt)
    (G_with : Has P w K mg base CX0 "_law_with" ["_law_thing", "_law_path", "_law_part"] (N + 1) (spWith N)) :
    Has P w K mg base CX0 "_law_spoiled" ["_law_bag_here", "_law_thing", "_law_names"] (N + 2) (spSpoil N) := by
  refine D.has sc__law_spoiled (fun vs H Q E h => ?_) (fun f cdv A outer s H vs Q E hr h => ?_)
  · obtain ⟨n, b, c, nm, x, d, ws, rfl, _⟩ := h; rfl
  · obtain ⟨n, b, c, nm, x, d, ws, rfl, hn, hnN, BG, hx, hw, hnm, nb, hws, hw8, k⟩ := h
    refine ⟨_, (pss_cons (ps_set (i := 3) sc__law_spoiled.nd rfl (by first | exact Or.inl rfl | exact Or.inr rfl) (pe_has G_places (hr.mono (by omega)) (pa_cons (pv 1) (pa_cons (pe_tup pa_nil) pa_nil))))
  (pss_cons (ps_set (i := 4) sc__law_spoiled.nd rfl (by first | exact Or.inl rfl | exact Or.inr rfl) (pe_ix ix_list (pv 3) (pe_has G_pick (hr.mono (by omega)) (pa_cons (pv 0) (pa_cons (pe_callB call_len (by rfl) B.len PySem.boot_len (pa_cons (pv 3) pa_nil)) pa_nil))) (fun _ _ => rfl)))
  (pss_cons (ps_set (i := 5) sc__law_spoiled.nd rfl (by first | exact Or.inl rfl | exact Or.inr rfl) (pe_has G_at (hr.mono (by omega)) (pa_cons (pv 1) (pa_cons (pe_ix ix_list (pv 3) (pe_has G_pick (hr.mono (by omega)) (pa_cons (pv 0) (pa_cons (pe_callB call_len (by rfl) B.len PySem.boot_len (pa_cons (pv 3) pa_nil)) pa_nil))) (fun _ _ => rfl)) pa_nil))))
  (pss_cons (ps_set (i := 6) sc__law_spoiled.nd rfl (by first | exact Or.inl rfl | exact Or.inr rfl) (pe_has G_at (hr.mono (by omega)) (pa_cons (pv 1) (pa_cons (pv 4) pa_nil))))
  (pss_cons (ps_set (i := 7) sc__law_spoiled.nd rfl (by first | exact Or.inl rfl | exact Or.inr rfl) (pe_has G_pick (hr.mono (by omega)) (pa_cons (pv 0) (pa_cons pe_int pa_nil))))
  (pss_cons (ps_set (i := 8) sc__law_spoiled.nd rfl (by first | exact Or.inl rfl | exact Or.inr rfl) (pe_has G_odd (hr.mono (by omega)) (pa_cons (pv 0) pa_nil)))
  (C8.pss_cut (ps_if (PW.pt (pw_or (pt_cmpR op_eq (pv 7) pe_int (nomark _)) (pw_or1 (pt_cmpR op_gt (pe_op op_add (pe_callB call_len (by rfl) B.len PySem.boot_len (pa_cons (pv 4) pa_nil)) (pe_has G_deep (hr.mono (by omega)) (pa_cons (pv 5) pa_nil))) pe_int (nomark _)))))
  (pss_one (ps_set (i := 6) sc__law_spoiled.nd rfl (by first | exact Or.inl rfl | exact Or.inr rfl) (pv 8)))
  (pss_one (ps_if (PW.pt (pw_and (pt_cmpR op_eq (pv 7) pe_int (nomark _)) (pw_and1 (pt_cmpR op_gt (pe_callB call_len (by rfl) B.len PySem.boot_len (pa_cons (pv 2) pa_nil)) pe_int (nomark _)))))
  (pss_one (ps_set (i := 6) sc__law_spoiled.nd rfl (by first | exact Or.inl rfl | exact Or.inr rfl) (pe_ix ix_list (pv 2) (pe_has G_pick (hr.mono (by omega)) (pa_cons (pv 0) (pa_cons (pe_callB call_len (by rfl) B.len PySem.boot_len (pa_cons (pv 2) pa_nil)) pa_nil))) (fun _ _ => rfl))))
  (pss_one (ps_if (pt_cmpR op_eq (pv 7) pe_int (nomark _))
  (pss_one (ps_set (i := 6) sc__law_spoiled.nd rfl (by first | exact Or.inl rfl | exact Or.inr rfl) (pv 5)))
  (pss_one (ps_if (pt_val (pe_callB call_isiT (by rfl) B.isinstance (by decide +kernel) (pa_cons (pv 6) (pa_cons (pe_tup (pa_cons (pe_bltn (v := .ty "list") (by rfl) B.list (by decide +kernel) rfl) (pa_cons (pe_bltn (v := .ty "tuple") (by rfl) B.tuple (by decide +kernel) rfl) pa_nil))) pa_nil))))
  (pss_one (ps_set (i := 6) sc__law_spoiled.nd rfl (by first | exact Or.inl rfl | exact Or.inr rfl) (pe_has G_other_row (hr.mono (by omega)) (pa_cons (pv 0) (pa_cons (pv 6) pa_nil)))))
  (pss_one (ps_if (pt_val (pe_callB call_isi (by rfl) B.isinstance (by decide +kernel) (pa_cons (pv 6) (pa_cons (pe_bltn (v := .ty "str") (by rfl) B.str (by decide +kernel) rfl) pa_nil))))
  (pss_one (ps_set (i := 6) sc__law_spoiled.nd rfl (by first | exact Or.inl rfl | exact Or.inr rfl) (pe_has G_other_string (hr.mono (by omega)) (pa_cons (pv 0) (pa_cons (pv 6) pa_nil)))))
  (pss_one (ps_if (pt_val (pe_has G_integer (hr.mono (by omega)) (pa_cons (pv 6) pa_nil)))
  (pss_one (ps_set (i := 6) sc__law_spoiled.nd rfl (by first | exact Or.inl rfl | exact Or.inr rfl) (pe_has G_other_number (hr.mono (by omega)) (pa_cons (pv 0) (pa_cons (pv 6) pa_nil)))))
  (pss_one (ps_set (i := 6) sc__law_spoiled.nd rfl (by first | exact Or.inl rfl | exact Or.inr rfl) (pv 8))))))))))))))
  (pss_one (ps_ret (pe_has G_with (hr.mono (by omega)) (pa_cons (pv 1) (pa_cons (pv 4) (pa_cons (pv 6) pa_nil))))))))))))), ?_⟩
    have sz : sizeLine = 16777216 := rfl
    refine ⟨_, rfl, by show 0 ≤ sizeLine; decide, fun p0 hp0 => ?_⟩
    have k0 : Kp [] H (upd H p0 (.tup [])) := Kp.new hp0
    refine ⟨(· ≠ b), x, d, p0, [], rfl, (hx.keep k0).mono hnN, upd_same, by simp only [List.length_nil]; omega, by omega, fun l xs H1 k1 hl el x1 x2 xp => ?_⟩
    have k01 : Kp [b] H H1 := (k0.trans k1).zero
    have B1 := BG.keep0 (k0.trans k1)
    have lb : l ≠ b := (BG.keep0 k0 |>.new hl).1
    have x3 : xs.length ≤ 1000 := by omega
    -- the two paths
    refine ⟨_, rfl, _, rfl, _, rfl, _, _, rfl, .inl ⟨_, SqL.of el, rfl⟩, b, c, _, rfl, B1, by omega, by omega, fun r1 H2 r10 r11 B2 k2 => ?_⟩
    have el2 := k2.at_ _ _ el (by simpa using lb)
    obtain ⟨y1, hy1⟩ : ∃ y, xs[r1.toNat]? = some y := ⟨_, List.getElem?_eq_getElem (by omega)⟩
    obtain ⟨q1, js1, f1, rfl, t1, at1, lj1⟩ := xp _ (List.mem_of_getElem? hy1)
    refine ⟨l, xs, r1, _, rfl, rfl, SqL.of el2, atI_of r10 hy1, ?_⟩
    refine ⟨_, rfl, _, rfl, _, rfl, _, rfl, _, _, rfl, .inl ⟨_, SqL.of el2, rfl⟩, b, c, _, rfl, B2, by omega, by omega, fun r2 H3 r20 r21 B3 k3 => ?_⟩
    have el3 := k3.at_ _ _ el2 (by simpa using lb)
    obtain ⟨y2, hy2⟩ : ∃ y, xs[r2.toNat]? = some y := ⟨_, List.getElem?_eq_getElem (by omega)⟩
    obtain ⟨q2, js2, f2, rfl, t2, at2, lj2⟩ := xp _ (List.mem_of_getElem? hy2)
    have k03 : Kp [b] H H3 := (k01.trans k2).trans k3
    have t13 := (k2.trans k3).tp _ _ t1
    have t23 := (k2.trans k3).tp _ _ t2
    rw [List.nil_append] at t13 t23
    refine ⟨l, xs, r2, _, rfl, rfl, SqL.of el3, atI_of r20 hy2, ?_⟩
    refine ⟨(· ≠ b), n, x, d, q2, js2, f2, rfl, hx.bag k03, t23, at2, fun v2 lj2 d2 => ?_⟩
    refine ⟨_, rfl, _, rfl, (· ≠ b), n, x, d, q1, js1, f1, rfl, hx.bag k03, t13, at1, fun v1 ln1 d1 => ?_⟩
    refine ⟨_, rfl, b, c, 8, rfl, B3, by decide, by decide, fun ch H4 ch0 ch1 B4 k4 => ?_⟩
    refine ⟨_, rfl, b, c, rfl, B4, fun o e H5 B5 k5 de we => ?_⟩
    have k45 := k4.trans k5
    have k05 := k03.trans k45
    have t15 := k45.tp _ _ t13
    have d2 := (d2.bag k45).mono (m := n) (by omega)
    have d1' := d1.bag k45
    have d1 := d1'.mono (m := n) (by omega)
    have hx5 := hx.bag k05
    obtain ⟨ob, hb4⟩ := B4.someB
    have de : Dt (· ≠ b) true H5 n o e := (de.mono (m := n) hn).imp fun a ha => new_b hb4 ha
    have w1 := at1.wt
    have w2 := at2.wt
    have wp := wt_pos d
    refine ⟨fun σ H' => ∃ y g, σ = [some (.ref b), some x, some (.ref nm), some (.ref l), some (.ref q1), some v2, some y, some (.int ch), some o] ∧ Bag H' b c ∧ Kp [b] H5 H' ∧ Dt (· ≠ b) true H' n y g ∧ wt g ≤ 15 * wt d + 10, ?_, ?_⟩
    · have fo : ∀ H6, Kp [] H5 H6 → ∃ y g, [some (V.ref b), some x, some (.ref nm), some (.ref l), some (.ref q1), some v2, some o, some (.int ch), some o] = [some (.ref b), some x, some (.ref nm), some (.ref l), some (.ref q1), some v2, some y, some (.int ch), some o] ∧ Bag H6 b c ∧ Kp [b] H5 H6 ∧ Dt (· ≠ b) true H6 n y g ∧ wt g ≤ 15 * wt d + 10 :=
        fun H6 k6 => ⟨o, e, rfl, B5.keep0 k6, k6.zero, de.keep k6, by omega⟩
      refine ⟨_, rfl, rfl, _, rfl, ?_⟩
      refine ite2 (fun _ => iteT ⟨_, rfl, fo _ (Kp.refl _)⟩) (fun _ => ?_)
      refine ⟨_, rfl, _, _, rfl, .inr ⟨_, .inl (.inl t15), rfl⟩, _, rfl, (· ≠ b), v2, f2, rfl, d2.mono hnN, fun i H6 k6 => ⟨_, _, rfl, rfl, _, _, rfl, rfl, _, rfl, ?_⟩⟩
      refine ite2 (fun _ => ⟨_, rfl, fo _ k6⟩) (fun _ => ?_)
      have B6 := B5.keep0 k6
      have d16 := d1.keep k6
      have nm6 := k6.at_ _ _ (k05.at_ _ _ hnm (by simpa using nb)) (fun z => nomatch z)
      refine ⟨_, rfl, rfl, _, rfl, ?_⟩
      refine and_e (fun z => ⟨_, rfl, _, _, rfl, .inl ⟨_, SqL.of nm6, rfl⟩, _, _, rfl, rfl, _, rfl, z⟩) (fun _ hc => ?_) ?_
      · have hc := of_decide_eq_true hc
        rw [List.length_map] at hc
        refine ⟨_, rfl, _, rfl, _, rfl, _, _, rfl, .inl ⟨_, SqL.of nm6, rfl⟩, b, c, _, rfl, B6, by rw [List.length_map]; exact hc, by rw [List.length_map]; omega, fun r3 H7 r30 r31 B7 k7 => ?_⟩
        rw [List.length_map] at r31
        obtain ⟨u, hu⟩ : ∃ u, ws[r3.toNat]? = some u := ⟨_, List.getElem?_eq_getElem (by omega)⟩
        have lu := hw8 u (List.mem_of_getElem? hu)
        refine ⟨nm, _, r3, .str u, rfl, rfl, SqL.of (k7.at_ _ _ nm6 (by simpa using nb)), atI_of r30 (by rw [List.getElem?_map, hu]; rfl), ?_⟩
        exact ⟨.str u, .str u, rfl, B7, k6.zero.trans k7, .str u (by omega), by rw [wt]; omega⟩
      refine ⟨_, rfl, rfl, _, rfl, ?_⟩
      refine ite2 (fun _ => ⟨_, rfl, v2, f2, rfl, B6, k6.zero, d2.keep k6, by omega⟩) (fun _ => ?_)
      refine ⟨_, rfl, (by show 2 ≤ sizeLine; decide), fun T hT => ⟨_, T, _, _, _, _, rfl, upd_same, .cons (.ty _) (.cons (.ty _) .nil), (d16.keep (Kp.new hT)).ty, kit_row _, _, rfl, ?_⟩⟩
      have k7 := k6.snoc (o := .tup [.ty "list", .ty "tuple"]) hT
      have B7 := B5.keep0 k7
      have d17 := d1.keep k7
      cases hR : isRowD f1 with
      | true =>
        refine iteT ⟨_, rfl, _, rfl, b, c, v1, n, f1, rfl, B7, d17, hR, by omega, fun v e H8 B8 k8 d8 w8 => ?_⟩
        exact ⟨v, e, rfl, B8, k7.zero.trans k8, d8, by omega⟩
      | false =>
        refine iteF ?_
        refine ⟨_, rfl, _, _, _, _, _, rfl, .ty _, d17.ty, kit_ty (kb_str _), _, rfl, ?_⟩
        cases hS : isS f1 with
        | true =>
          refine iteT ?_
          cases d17 with
          | str u hu =>
            rw [wt] at w1
            refine ⟨_, rfl, _, rfl, b, c, u, rfl, B7, by omega, fun u' H8 B8 k8 l8 => ?_⟩
            exact ⟨.str u', .str u', rfl, B8, k7.zero.trans k8, .str u' (by omega), by rw [wt]; omega⟩
          | _ => cases hS
        | false =>
          refine iteF ?_
          refine ⟨_, rfl, (· ≠ b), true, n, v1, f1, rfl, d17, _, rfl, ?_⟩
          cases hI : (isI f1 && !isB f1) with
          | true =>
            refine iteT ?_
            cases d17 with
            | int u =>
              refine ⟨_, rfl, _, rfl, b, c, u, rfl, B7, fun u' H8 B8 k8 => ?_⟩
              exact ⟨.int u', .int u', rfl, B8, k7.zero.trans k8, .int u', by rw [wt]; omega⟩
            | _ => cases hI
          | false =>
            exact iteF ⟨_, rfl, fo _ k7⟩
    · rintro σ H6 ⟨y, g, rfl, B6, k6, dy, wy⟩
      refine ⟨_, rfl, _, rfl, _, rfl, (· ≠ b), n, n, 2 * n, x, y, d, g, q1, js1, f1, rfl, hx5.bag k6, k6.tp _ _ t15, at1, dy, by omega, by omega, by omega, fun v e' H7 k7 d7 w7 => ?_⟩
      obtain ⟨o6, hb6⟩ := B6.someB
      exact k v e' H7 (B6.keep0 k7) ((k05.trans k6).trans k7.zero) (d7.imp fun a ha => ha.elim id fun ha => new_b hb6 ha) (by omega)
end
end Fm

namespace Fm
open PySem PySem.Spec PyProof.Rows L2
section
variable {P : Program} {w : World} {K : PySem.W.Frag} {mg : Str → Option Value} {base : Heap}
theorem ok_row (B : Bi mg) (D : Dfn K mg "_law_row" s__law_row ["_law_thing"]) : Has P w K mg base CX0 "_law_row" ["_law_thing"] 1 spIsRow := by
  refine D.has sc__law_row (fun vs H Q E h => ?_) (fun f cdv A outer s H vs Q E hr h => ?_)
  · obtain ⟨S, q, n, x, d, rfl, _⟩ := h; rfl
  · obtain ⟨S, q, n, x, d, rfl, hx, k⟩ := h
    refine ⟨_, (pss_one (ps_ret (pe_callB call_isiT (by rfl) B.isinstance (by decide +kernel) (pa_cons (pv 0) (pa_cons (pe_tup (pa_cons (pe_bltn (v := .ty "list") (by rfl) B.list (by decide +kernel) rfl) (pa_cons (pe_bltn (v := .ty "tuple") (by rfl) B.tuple (by decide +kernel) rfl) pa_nil))) pa_nil))))), ?_⟩
    exact ⟨_, rfl, (by show 2 ≤ sizeLine; decide), fun T hT => ⟨_, T, _, _, _, _, rfl, upd_same, .cons (.ty _) (.cons (.ty _) .nil), (hx.keep (Kp.new hT)).ty, kit_row _, k _ (Kp.new hT)⟩⟩
theorem ok_word (B : Bi mg) (D : Dfn K mg "_law_word" s__law_word ["_law_thing"]) : Has P w K mg base CX0 "_law_word" ["_law_thing"] 1 spIsName := by
  refine D.has sc__law_word (fun vs H Q E h => ?_) (fun f cdv A outer s H vs Q E hr h => ?_)
  · obtain ⟨S, q, n, x, d, rfl, _⟩ := h; rfl
  · obtain ⟨S, q, n, x, d, rfl, hx, k⟩ := h
    refine ⟨_, (pss_cons (ps_if (PW.pt (pw_or (pt_not (pt_val (pe_callB call_isi (by rfl) B.isinstance (by decide +kernel) (pa_cons (pv 0) (pa_cons (pe_bltn (v := .ty "str") (by rfl) B.str (by decide +kernel) rfl) pa_nil))))) (pw_or (pt_cmpR op_lt (pe_callB call_len (by rfl) B.len PySem.boot_len (pa_cons (pv 0) pa_nil)) pe_int (nomark _)) (pw_or1 (pt_cmpR op_gt (pe_callB call_len (by rfl) B.len PySem.boot_len (pa_cons (pv 0) pa_nil)) pe_int (nomark _))))))
  (pss_one (ps_ret pe_bl))
  pss_nil)
  (pss_cons (ps_for PassesOwn.never rfl (pi_str (pv 0)) (pg_name (i := 1) sc__law_word.nd rfl (by first | exact Or.inl rfl | exact Or.inr rfl))
  (pss_one (ps_if (pt_cmpR op_notIn_sign (pv 1) pe_str (by rfl))
  (pss_one (ps_ret pe_bl))
  pss_nil)))
  (pss_one (ps_ret pe_bl)))), ?_⟩
    refine ⟨_, rfl, _, _, _, _, _, rfl, .ty _, hx.ty, kit_ty (kb_str _), _, rfl, ?_⟩
    cases hx with
    | str z hz =>
      refine iteF ?_
      refine ⟨_, rfl, _, z.length, rfl, ⟨Nat.le_trans hz (by decide), rfl⟩, _, _, rfl, rfl, _, rfl, ?_⟩
      refine ite2 (fun h1 => ?_) (fun h1 => ?_)
      · have h1 := of_decide_eq_true h1
        refine iteT ?_
        rw [bP_f] at k
        · exact k
        · rintro ⟨w', e, n1, n2, n3⟩
          cases e
          omega
      · have h1 : ¬ ((z.length : Int) < 1) := fun h => h1 (decide_eq_true h)
        refine ⟨_, rfl, _, z.length, rfl, ⟨Nat.le_trans hz (by decide), rfl⟩, _, _, rfl, rfl, _, rfl, ?_⟩
        refine ite2 (fun h8 => ?_) (fun h8 => ?_)
        · have h8 := of_decide_eq_true h8
          rw [bP_f] at k
          · exact k
          · rintro ⟨w', e, n1, n2, n3⟩
            cases e
            omega
        · have h8 : ¬ (8 < (z.length : Int)) := fun h => h8 (decide_eq_true h)
          refine ⟨_, rfl, z, rfl, ?_⟩
          refine for_it walk_str (fun i σ H' => (∃ v : Option V, σ = [some (.str z), v]) ∧ H' = H ∧ ∀ j c, j < i → z.cps[j]? = some c → 97 ≤ c ∧ c ≤ 122) ⟨⟨none, rfl⟩, rfl, fun j c h => absurd h (by omega)⟩ (fun _ _ _ _ _ => trivial) ?_ ?_
          · rintro i v σ H1 H2 hi ⟨⟨v0, rfl⟩, rfl, hj⟩ ⟨rfl, c, hc, rfl⟩
            refine ⟨_, rfl, c, abc, rfl, rfl, _, rfl, ?_⟩
            by_cases hm : c ∈ abc.cps.toList
            · rw [decide_eq_true hm]
              refine iteF ?_
              refine ⟨⟨_, rfl⟩, rfl, fun j c' h e => ?_⟩
              by_cases z' : j = i
              · rw [z', hc] at e
                cases e
                exact abc_mem.mp hm
              · exact hj j c' (by omega) e
            · rw [decide_eq_false hm]
              refine iteT ?_
              rw [bP_f] at k
              · exact k
              · rintro ⟨w', e, n1, n2, n3⟩
                cases e
                exact hm (abc_mem.mpr (n3 c (by
                  have : z.cps.toList[i]? = some c := by simpa using hc
                  exact List.mem_of_getElem? this)))
          · rintro σ H1 ⟨⟨v0, rfl⟩, rfl, hj⟩
            rw [bP_t] at k
            · exact k
            · refine ⟨z, rfl, by omega, by omega, fun c hc => ?_⟩
              obtain ⟨j, hj', e⟩ := List.getElem_of_mem hc
              have hj2 : j < z.cps.size := by simpa using hj'
              exact hj j c hj2 (by rw [← e]; simp [hj2])
    | _ =>
      refine iteT (iteT ?_)
      rw [bP_f] at k
      · exact k
      · rintro ⟨w', e, _⟩
        cases e
theorem sl_row_take {K : PySem.W.Frag} {H : Hp} {p : Addr} {xs : List V} {i : Nat} {Q : VK} (h : RwAt H p xs) (hi : i < xs.length) (q : ∀ r H', Kp [] H H' → H r = none → (SqL K H' r (xs.take i) ∨ SqT K H' r (xs.take i)) → RwAt H' r (xs.take i) → Q (.ref r) H') : rSlL K (.ref p) none (some (i : Int)) H Q ∨ rSlT K (.ref p) none (some (i : Int)) H Q := by
  rcases h with h | h
  · refine .inl ⟨p, xs, rfl, .inl h, fun r hr => ?_⟩
    rw [cut_take (by omega)]
    exact q r _ (Kp.new hr) hr (.inl (SqL.of upd_same)) (.inl (.inl upd_same))
  · refine .inr ⟨p, xs, rfl, .inl (.inl h), cut_not hi, fun r hr => ?_⟩
    rw [cut_take (by omega)]
    exact q r _ (Kp.new hr) hr (.inr (SqT.of upd_same)) (.inr upd_same)
theorem ok_words (B : Bi mg) (D : Dfn K mg "_law_words" s__law_words ["_law_thing", "_law_least", "_law_most"]) (G_row : Has P w K mg base CX0 "_law_row" ["_law_thing"] 1 spIsRow) (G_word : Has P w K mg base CX0 "_law_word" ["_law_thing"] 1 spIsName) :
    Has P w K mg base CX0 "_law_words" ["_law_thing", "_law_least", "_law_most"] 2 spAreNames := by
  refine D.has sc__law_words (fun vs H Q E h => ?_) (fun f cdv A outer s H vs Q E hr h => ?_)
  · obtain ⟨S, q, n, x, d, lo, hi, rfl, _⟩ := h; rfl
  · obtain ⟨S, q, n, x, d, lo, hi, rfl, hx, k⟩ := h
    refine ⟨_, (pss_cons (ps_if (PW.pt (pw_or (pt_not (pt_val (pe_has G_row (hr.mono (by omega)) (pa_cons (pv 0) pa_nil)))) (pw_or (pt_cmpR op_lt (pe_callB call_len (by rfl) B.len PySem.boot_len (pa_cons (pv 0) pa_nil)) (pv 1) (nomark _)) (pw_or1 (pt_cmpR op_gt (pe_callB call_len (by rfl) B.len PySem.boot_len (pa_cons (pv 0) pa_nil)) (pv 2) (nomark _))))))
  (pss_one (ps_ret pe_bl))
  pss_nil)
  (pss_cons (ps_for PassesOwn.never rfl (pi_range1 rfl B.range (pa_cons (pe_callB call_len (by rfl) B.len PySem.boot_len (pa_cons (pv 0) pa_nil)) pa_nil)) (pg_name (i := 3) sc__law_words.nd rfl (by first | exact Or.inl rfl | exact Or.inr rfl))
  (pss_one (ps_if (PW.pt (pw_or (pt_not (pt_val (pe_has G_word (hr.mono (by omega)) (pa_cons (pe_ix (ix_list.or ix_tup) (pv 0) (pv 3) (fun _ _ => rfl)) pa_nil)))) (pw_or1 (pt_cmpR op_in_seq (pe_ix (ix_list.or ix_tup) (pv 0) (pv 3) (fun _ _ => rfl)) (pe_slice (sl_list.or sl_tup) (pv 0) po_none (po_some (pv 3))) (by rfl)))))
  (pss_one (ps_ret pe_bl))
  pss_nil)))
  (pss_one (ps_ret pe_bl)))), ?_⟩
    refine ⟨_, rfl, S, q, n, x, d, rfl, hx, fun H1 k1 => ⟨_, rfl, ?_⟩⟩
    have hx1 := hx.keep k1
    cases hd : isRowD d with
    | false =>
      refine iteT (iteT ?_)
      rw [bP_f] at k
      · exact k _ k1
      · rintro ⟨ws, h⟩
        rcases h.1 with e | e
        all_goals (rw [e] at hd; cases hd)
    | true =>
      refine iteF ?_
      obtain ⟨ds, m, p, xs, rfl, rfl, rx, lx, _, ax, hds⟩ := hx1.row hd
      have el : xs.length = ds.length := ax.len
      have no : ∀ ws, NmsD lo hi d ws → ds = ws.map .str := fun ws h => by
        rcases hds with ⟨rfl, _⟩ | ⟨rfl, _⟩ <;> rcases h.1 with e | e <;> first | (cases e; rfl) | cases e
      have nol : ∀ ws, NmsD lo hi d ws → ds.length = ws.length := fun ws h => by rw [no ws h, List.length_map]
      refine ⟨_, rfl, _, _, rfl, rx.len, _, rfl, _, _, rfl, rfl, _, rfl, ?_⟩
      refine ite2 (fun h1 => ?_) (fun h1 => ?_)
      · have h1 := of_decide_eq_true h1
        refine iteT ?_
        rw [bP_f] at k
        · exact k _ k1
        · rintro ⟨ws, h⟩
          have := nol ws h
          have := h.2.2.2.1
          omega
      have h1 : ¬ ((xs.length : Int) < (lo : Int)) := fun h => h1 (decide_eq_true h)
      refine ⟨_, rfl, _, _, rfl, rx.len, _, rfl, _, _, rfl, rfl, _, rfl, ?_⟩
      refine ite2 (fun h2 => ?_) (fun h2 => ?_)
      · have h2 := of_decide_eq_true h2
        rw [bP_f] at k
        · exact k _ k1
        · rintro ⟨ws, h⟩
          have := nol ws h
          have := h.2.2.2.2
          omega
      have h2 : ¬ ((hi : Int) < (xs.length : Int)) := fun h => h2 (decide_eq_true h)
      refine ⟨_, rfl, _, _, rfl, rx.len, (xs.length : Int), rfl, by omega, by omega, ?_⟩
      refine for_range (lo := 0) (n := (xs.length : Int).toNat) (fun i σ H' => (∃ o, σ = [some (.ref p), some (.int lo), some (.int hi), o]) ∧ Kp [] H1 H' ∧ ∃ ws : List Str, ds.take i = ws.map .str ∧ (∀ w ∈ ws, IsNm w) ∧ ws.Nodup) ⟨⟨none, rfl⟩, Kp.refl _, [], rfl, (fun w h => nomatch h), List.nodup_nil⟩ ?_ ?_
      · rintro i σ H2 hi' ⟨⟨o, rfl⟩, k2, ws, e1, e2, e3⟩
        have hi2 : i < xs.length := by omega
        have ey : xs[i]? = some xs[i] := List.getElem?_eq_getElem hi2
        obtain ⟨dy, hdy, dt⟩ := ax.getV ey
        rw [show (0 + (i : Int)) = (i : Int) by omega]
        refine ⟨_, rfl, _, rfl, (rx.keep k2).ix ey ⟨S, q, m, xs[i], dy, rfl, dt.keep k2, _, rfl, ?_⟩⟩
        by_cases hn : NmD dy
        · rw [bP_t hn]
          refine iteF ?_
          obtain ⟨w1, rfl, nw⟩ := hn
          have et : xs.take i = ws.map V.str := DtAll.strs (by rw [← e1]; exact ax.take i)
          obtain ⟨y, hy⟩ : ∃ y, xs[i] = y := ⟨_, rfl⟩
          rw [hy] at dt ey
          cases dt with
          | str _ hz =>
            refine ⟨_, rfl, _, rfl, (rx.keep k2).ix ey ⟨_, rfl, _, rfl, _, rfl, sl_row_take (rx.keep k2) hi2 fun r H3 k3 hr sq _ => ?_⟩⟩
            rw [et] at sq
            refine ⟨r, _, rfl, sq, rfl, flat_strs ws, ?_⟩
            rw [inV_strs]
            refine ⟨_, rfl, ?_⟩
            by_cases hm : w1 ∈ ws
            · rw [decide_eq_true hm]
              refine iteT ?_
              rw [bP_f] at k
              · exact k _ (k1.trans (k2.trans k3))
              · rintro ⟨us, hu⟩
                have eu := no us hu
                have h3 : us[i]? = some w1 := strs_at (eu ▸ hdy)
                have h4 : us.take i = ws := strs_take (by rw [← e1, eu])
                exact notin_take hu.2.2.1 h3 (by rw [h4]; exact hm)
            · rw [decide_eq_false hm]
              refine iteF ?_
              refine ⟨⟨_, rfl⟩, k2.trans k3, ws ++ [w1], ?_, ?_, ?_⟩
              · rw [take_snoc hdy, e1, List.map_append]; rfl
              · intro w' h
                rcases List.mem_append.mp h with h | h
                · exact e2 w' h
                · rw [List.mem_singleton.mp h]; exact nw
              · exact nd_snoc e3 hm
        · rw [bP_f hn]
          refine iteT (iteT ?_)
          rw [bP_f] at k
          · exact k _ (k1.trans k2)
          · rintro ⟨us, hu⟩
            have eu := no us hu
            rw [eu, List.getElem?_map] at hdy
            cases e : us[i]? with
            | none => rw [e] at hdy; cases hdy
            | some w' =>
              rw [e] at hdy
              cases hdy
              exact hn ⟨w', rfl, hu.2.1 w' (List.mem_of_getElem? e)⟩
      · rintro σ H2 ⟨⟨o, rfl⟩, k2, ws, e1, e2, e3⟩
        rw [show (xs.length : Int).toNat = ds.length by omega, List.take_length] at e1
        have el2 := congrArg List.length e1
        rw [List.length_map] at el2
        rw [bP_t] at k
        · exact k _ (k1.trans k2)
        · refine ⟨ws, ?_, e2, e3, by omega, by omega⟩
          rw [← e1]
          rcases hds with ⟨rfl, _⟩ | ⟨rfl, _⟩
          · exact .inl rfl
          · exact .inr rfl
end
end Fm

namespace Fm
open PySem PySem.Spec PyProof.Rows L2
/-! ### C(..) in a try: what is raised depends on the slots -/
section
variable {X : Cx} {CX : CXT} {k : Nat} {f C : Addr} {fd : FuncData} {ps : List Str} {sp : Sp} {dvs : List V} {ds : List Value} {E : L2.St → XK} {x : Str} {p pos : Pos} {e : Expr} {es : List Expr} {t : TA}
def tMakeS (C : Addr) (sp : Sp) (dvs : List V) (E : L2.St → XK) (t : TA) : TE := fun σ H Q => t σ H fun vs H1 => ∀ x dx, H1 x = none → H1 dx = none → dx ≠ x →
  sp (.ref x :: (vs ++ dvs)) (upd (upd H1 dx (.own x)) x (.ins C dx [])) (fun v H2 => v = .non ∧ Q (.ref x) H2) (E σ)
theorem run_makeS {pins : List (Addr × Obj)} {σ : L2.St} {H : Hp} {s : Shared} {Q : VK} {us : List Value} {vs : List V} (M : Mk X.K C f) (F : FnOk X.prog X.w X.K X.mg X.base CX k f fd ps sp) (hr : Room (k + 1) X.A) (hb : Binds X.K fd ps ds) (hd : Vals dvs ds)
    (hx : PassesAt CX X σ (E σ)) (I : L2.Inv X pins σ H s) (r : Vals vs us)
    (h : ∀ x dx, H x = none → H dx = none → dx ≠ x → sp (.ref x :: (vs ++ dvs)) (upd (upd H dx (.own x)) x (.ins C dx [])) (fun v H2 => v = .non ∧ Q (.ref x) H2) (E σ)) :
    wpAny (model X.prog X.w) X.A (call (.ref C) us) (EP X pins σ Q) X.xe s := by
  obtain ⟨z, hz⟩ : ∃ z, z = s.heap.objs.size := ⟨_, rfl⟩
  have hq := h (z + 1) z (I.hok.fresh (by omega)) (I.hok.fresh (by omega)) (Nat.ne_of_lt (Nat.lt_succ_self _))
  have J := Inv.made (C := C) I
  rw [← hz] at J
  have r2 : Vals (V.ref (z + 1) :: (vs ++ dvs)) (Value.ref (z + 1) :: (us ++ ds)) := .cons rfl (r.append hd)
  have hl : (Value.ref (z + 1) :: us ++ ds).length = ps.length := r2.length.symm.trans (F.len _ _ _ _ hq)
  subst hz
  refine wpAny_call (make_map (f := f) I.kIn M.makes M.init (beq_iff_eq.mp M.fn) (codeAny_mono (F.run _ X.stack _ _ ⟨_ :: us, []⟩ (_ :: (us ++ ds)) _ _ (E σ) (hr.make C us []) (J.env0.make C us []) (hb _ (_ :: us) J.kIn hl) r2 hq) fun u s' hu => ?_))
  match u, hu with
  | .error e, hu => exact hx pins _ _ e s' J hu
  | .ok (.ret u), hu =>
    obtain ⟨v, H', J3, rv, ev, q3⟩ := J.after hu
    subst ev
    exact ⟨rv, V.ref (s.heap.objs.size + 1), H', J3, rfl, q3⟩
theorem pe_makeS (M : Mk X.K C f) (F : FnOk X.prog X.w X.K X.mg X.base CX k f fd ps sp) (hr : Room (k + 1) X.A) (hg : Gl X x) (hm : X.mg x = some (.ref C)) (hb : Binds X.K fd ps ds) (hd : Vals dvs ds) (hx : ∀ σ, PassesAt CX X σ (E σ))
    (ha : PA X (e :: es) t) (hdb : (x == ("__debug__" : Str)) = false := by decide) (he : starEach (e :: es) X.env = (false, eval e X.env) :: starEach es X.env := by rfl) (hpl : (backTo pos (starEach es X.env)).any (·.1) = false := by rfl) :
    PE X (.Call (.Name x p) (e :: es) [] pos) (tMakeS C sp dvs E t) := by
  refine ⟨fun pins s σ H Q I h => wpAny_Call_Name_kw (ld_glob I hg hm ?_ hdb)⟩
  exact PySem.W.callWith_K (h₀ := X.base) I.ok.mod.kin M.kp (thn (ha.run pos pins s σ H _ I h) fun us s1 ⟨vs, H1, I1, r, q⟩ => ⟨I1.kIn, run_makeS M F hr hb hd (hx σ) I1 r q⟩) he hpl
end
theorem tab_v {S : Addr → Prop} {q : Bool} {H : Hp} {n : Nat} {u : V} {e : PyData} {t : Str × List Str} (h : Dt S q H n u e) (ht : TabD e t) : ∃ a f, u = .ref a ∧ H a = some (.tup [.str t.1, .ref f]) ∧ RwAt H f (t.2.map V.str) := by
  obtain ⟨g, rfl, _, hn⟩ := ht
  cases h with
  | tup r l a =>
    cases a with
    | cons a0 a =>
      cases a with
      | cons a1 a =>
        cases a
        cases a0
        rcases hn.1 with rfl | rfl
        · cases a1 with
          | lst r1 l1 x1 => exact ⟨_, _, rfl, r, .inl (by rw [← x1.strs]; exact r1)⟩
        · cases a1 with
          | tup r1 l1 x1 => exact ⟨_, _, rfl, r, .inr (by rw [← x1.strs]; exact r1)⟩
theorem tupOf_in {K : PySem.W.Frag} {H : Hp} {f : Addr} {ys : List V} {Q : VK} (h : RwAt H f ys) (q : ∀ l H', Kp [] H H' → H' l = some (.tup ys) → Q (.ref l) H') : ∃ p ys, [V.ref f] = [.ref p] ∧ ((SqL K H p ys ∧ ∀ l, H l = none → Q (.ref l) (upd H l (.tup ys))) ∨ (SqT K H p ys ∧ Q (.ref p) H)) := by
  rcases h with h | h
  · exact ⟨f, ys, rfl, .inl ⟨.inl h, fun l hl => q l _ (Kp.new hl) upd_same⟩⟩
  · exact ⟨f, ys, rfl, .inr ⟨.inl (.inl h), q f H (Kp.refl _) h⟩⟩
theorem ShpD.row {d : PyData} {tbs : List (Str × List Str)} (h : ShpD d tbs) : isRowD d = true := by
  obtain ⟨ds, r, _⟩ := h
  rcases r with rfl | rfl <;> rfl
theorem TabsD.nth : ∀ {ds : List PyData} {ts : List (Str × List Str)}, TabsD ds ts → ∀ {i : Nat} {d : PyData} {t : Str × List Str}, ds[i]? = some d → ts[i]? = some t → TabD d t
  | _, _, .cons a b, 0, d, t, h, h' => by cases h; cases h'; exact a
  | _, _, .cons a b, i + 1, d, t, h, h' => b.nth (i := i) h h'
def spDue : Sp := fun vs H Q _ => ∃ (S : Addr → Prop) (q : Bool) (n : Nat) (x : V) (d : PyData), vs = [x] ∧ Dt S q H n x d ∧
  (∀ tbs H', Kp [] H H' → ShpD d tbs → Q .non H') ∧ (∀ i H', Kp [] H H' → ShpBad d i → Q (.int i) H')
def spMade : Sp := fun vs H Q _ => ∃ (S : Addr → Prop) (q : Bool) (n : Nat) (x : V) (d : PyData), vs = [x] ∧ Dt S q H n x d ∧
  (∀ tbs r H', Kp [] H H' → ShpD d tbs → Im H' 4 (.ref r) (.tuple [.str "made", dTabs tbs]) → Q (.ref r) H') ∧ (∀ i r H', Kp [] H H' → ShpBad d i → Im H' 4 (.ref r) (.tuple [.str "refused", .int i]) → Q (.ref r) H')
def spTDue : Sp := fun vs H Q _ => ∃ (S : Addr → Prop) (q : Bool) (n : Nat) (x : V) (d : PyData) (tbs : List (Str × List Str)), vs = [x] ∧ Dt S q H n x d ∧ ShpD d tbs ∧
  ∀ r H', Kp [] H H' → Im H' 4 (.ref r) (.tuple [.str "made", dTabs tbs]) → Q (.ref r) H'
section
variable {P : Program} {w : World} {K : PySem.W.Frag} {mg : Str → Option Value} {base : Heap}
theorem ok_made {C CE fI : Addr} {fdI : FuncData} (B : Bi mg) (D : Dfn K mg "_law_made" s__law_made ["_law_things"]) (T : ShCls K mg C) (M : Mk K C fI) (GI : FnOk P w K mg base (L2.CX P w) 4 fI fdI ["self", "tables"] (spShapeI C CE)) (bI : Binds K fdI ["self", "tables"] [])
    (gE : mg "BadShape" = some (.ref CE)) (xE : XfC K CE) (nE : PySem.W.findIn K (.ref CE) "at" = some none) (mE : PySem.W.exmOne K (.ref CE) (.ref CE) = some true) : Has P w K mg base CX0 "_law_made" ["_law_things"] 6 spMade := by
  refine D.has sc__law_made (fun vs H Q E h => ?_) (fun f cdv A outer s H vs Q E hr h => ?_)
  · obtain ⟨S, q, n, x, d, rfl, _⟩ := h; rfl
  · obtain ⟨S, q, n, x, d, rfl, hx, kM, kR⟩ := h
    refine ⟨_, (pss_cons (ps_set (i := 1) sc__law_made.nd rfl (by first | exact Or.inl rfl | exact Or.inr rfl) pe_non)
  (pss_cons (ps_set (i := 2) sc__law_made.nd rfl (by first | exact Or.inl rfl | exact Or.inr rfl) pe_non)
  (pss_cons (ps_try_as (i := 3) (Wout := fun _ _ _ _ => False) rfl rfl sc__law_made.nd rfl rfl ⟨rfl, by decide, .inl gE⟩ takes0 (fun W pn xe tk _ => (pss_one (ps_set (i := 2) sc__law_made.nd rfl (by first | exact Or.inl rfl | exact Or.inr rfl) (pe_makeS M GI hr rfl T.mgC bI .nil (fun σ => passAt tk σ) (pa_cons (pv 0) pa_nil)))))
  (fun a oe cls d pn hz hf => (pss_one (ps_set (i := 1) sc__law_made.nd rfl (by first | exact Or.inl rfl | exact Or.inr rfl) (pe_tup (pa_cons pe_str (pa_cons (pe_xf xE nE hz hf (pv 3)) pa_nil)))))))
  (pss_cons (ps_if (pt_cmpR op_notN (pv 1) pe_non (nomark _))
  (pss_one (ps_ret (pv 1)))
  pss_nil)
  (pss_one (ps_ret (pe_tup (pa_cons pe_str (pa_cons (pe_fld (pv 2) rfl) pa_nil))))))))), ?_⟩
    refine ⟨_, rfl, fun p dx hp hdx hne => ?_⟩
    have k1 : Kp [] H (upd (upd H dx (.own p)) p (.ins C dx [])) := (Kp.new hdx).snoc (by rw [upd_ne (Ne.symm hne)]; exact hp)
    refine ⟨p, dx, S, q, n, x, d, rfl, upd_same, hx.keep k1, fun tbs H1 hS k2 SA => ⟨rfl, ?_⟩, fun i dd H1 hB k2 hdd e1 => ?_⟩
    · refine ⟨_, rfl, rfl, _, rfl, iteF ?_⟩
      obtain ⟨dx', v, h1, h2⟩ := SA
      have k12 : Kp [] H H1 := ⟨fun a o e n => k2.at_ a o (k1.at_ a o e n) (by simpa using fun z => by rw [z, hp] at e; cases e), fun a xs e => k2.tp _ _ (k1.tp _ _ e)⟩
      refine ⟨_, rfl, p, C, dx', _, v, rfl, h1, T.cl, T.nT, rfl, by show 2 ≤ sizeLine; decide, fun r hr' => ?_⟩
      refine kM tbs r _ (k12.snoc hr') hS (.tup upd_same ⟨by simp, ⟨_, upd_same⟩⟩ (.cons (.str _ (by decide +kernel)) (.cons (Im.kp (ms := []) (Kp.new hr') h2) .nil)))
    · refine ⟨true, mE, fun _ a ha => ?_, fun z => nomatch z⟩
      refine ⟨_, rfl, rfl, rfl, dd, _, .int i, rfl, e1, rfl, by show 2 ≤ sizeLine; decide, fun r hr' => ?_⟩
      refine ⟨_, rfl, rfl, _, rfl, iteT ⟨_, rfl, ?_⟩⟩
      exact kR i r _ ((k1.trans k2).snoc hr') hB (.tup upd_same ⟨by simp, ⟨_, upd_same⟩⟩ (.cons (.str _ (by decide +kernel)) (.cons (.int i) .nil)))
end
end Fm

namespace Fm
open PySem PySem.Spec PyProof.Rows L2
def rTupO (K : PySem.W.Frag) : List V → Hp → VK → Prop := fun xs H Q => ∃ p ys, xs = [.ref p] ∧ ((SqL K H p ys ∧ ∀ l, H l = none → Q (.ref l) (upd H l (.tup ys))) ∨ (SqT K H p ys ∧ Q (.ref p) H))
theorem tupO_in {K : PySem.W.Frag} {H : Hp} {f : Addr} {ys : List V} {Q : VK} (h : RwAt H f ys) (q : ∀ l H', Kp [] H H' → H' l = some (.tup ys) → Q (.ref l) H') : rTupO K [V.ref f] H Q := tupOf_in h q
section
variable {P : Program} {w : World} {K : PySem.W.Frag} {mg : Str → Option Value} {base : Heap}
theorem ok_tdue (B : Bi mg) (D : Dfn K mg "_law_tables_due" s__law_tables_due ["_law_things"]) : Has P w K mg base CX0 "_law_tables_due" ["_law_things"] 1 spTDue := by
  refine D.has sc__law_tables_due (fun vs H Q E h => ?_) (fun f cdv A outer s H vs Q E hr h => ?_)
  · obtain ⟨S, q, n, x, d, tbs, rfl, _⟩ := h; rfl
  · obtain ⟨S, q, n, x, d, tbs, rfl, hx, hS, k⟩ := h
    refine ⟨_, (pss_one (ps_ret (pe_tup (pa_cons pe_str (pa_cons (pe_callTy call_tuple_of (by rfl) B.tuple (by decide +kernel) (pa_cons (pe_lc (own := [("_law_table", 1)]) (g := gName 1) (by rfl) sc__law_tables_due.nd (pi_or (pi_list (pv 0)) (pi_tup (pv 0))) (blkOk_by (own := [("_law_table", 1)]) (N := N__law_tables_due) (sc := defScope s__law_tables_due) (by decide +kernel)) (fun _ _ _ _ _ => (pg_name (i := 1) sc__law_tables_due.nd rfl (by first | exact Or.inl rfl | exact Or.inr rfl))) (fun _ _ _ _ _ => pts_nil) (fun _ _ _ _ _ => (pe_tup (pa_cons (pe_ix (r := rIxT K) ix_tup (pv 1) pe_int (fun _ _ => rfl)) (pa_cons (pe_callTy (r := rTupO K) call_tuple_of (by rfl) B.tuple (by decide +kernel) (pa_cons (pe_ix (r := rIxT K) ix_tup (pv 1) pe_int (fun _ _ => rfl)) pa_nil)) pa_nil))))) pa_nil)) pa_nil))))), ?_⟩
    obtain ⟨ds, m, p, xs, rfl, rfl, rx, lx, _, ax, hds⟩ := hx.row hS.row
    obtain ⟨ds', hrow, g1, g2, htab, gnd⟩ := hS
    have e' : ds' = ds := by
      rcases hds with ⟨rfl, _⟩ | ⟨rfl, _⟩ <;> rcases hrow with e | e <;> first | (cases e; rfl) | cases e
    subst e'
    have el : xs.length = tbs.length := ax.len.trans htab.len
    have lt5 : tbs.length ≤ 5 := by rw [← htab.len]; exact g2
    rcases hds with ⟨_, _, r⟩ | ⟨_, _, r⟩
    · refine .inl ⟨_, rfl, p, rfl, ⟨_, .inl r⟩, fun D hD => ?_⟩
      refine lc_it (walk_list (xs := xs)) (fun i H' => ∃ ys, H' D = some (.lst ys) ∧ ImAll H' 2 ys ((tbs.take i).map dTab) ∧ ys.length = i ∧ Kp [] H H') ⟨[], upd_same, .nil, rfl, Kp.new hD⟩ (fun i H2 _ ⟨_, _, _, _, k2⟩ => .inl (k2.rd (fun z => nomatch z) r)) (fun i u H2 H3 hi h2 hy => ?_) (fun H2 h2 => ?_)
      · obtain ⟨ys, h2, i2, l2, k2⟩ := h2
        obtain ⟨rfl, hu⟩ := hy
        obtain ⟨e, he, du⟩ := ax.getV hu
        obtain ⟨t, ht, tt⟩ := htab.get he
        obtain ⟨a, f1, rfl, ha, hf1⟩ := tab_v (du.keep k2) tt
        refine ⟨rfl, _, rfl, a, _, _, .str t.1, rfl, rfl, .inl (.inl ha), atI_nat (k := 0) rfl, _, rfl, a, _, _, .ref f1, rfl, rfl, .inl (.inl ha), atI_nat (k := 1) rfl, ?_⟩
        dsimp only [tNil]
        refine tupO_in hf1 fun l H4 k4 h4 => ⟨by show 2 ≤ sizeLine; decide, fun z hz => ?_⟩
        have g := tt.good
        have k5 := k4.snoc (o := .tup [.str t.1, .ref l]) hz
        have hD5 := k5.at_ _ _ h2 (fun z => nomatch z)
        refine ⟨ys, hD5, by rw [l2]; exact Nat.lt_of_lt_of_le hi (Nat.le_trans lx (by decide)), ys ++ [.ref z], upd_same, ?_, by simp [l2], (k2.trans k5).late hD⟩
        rw [take_snoc ht, List.map_append]
        have hzD : z ≠ D := fun e => by rw [e, k4.at_ _ _ h2 (fun z => nomatch z)] at hz; cases hz
        have hlD : l ≠ D := fun e => by rw [e, k4.at_ _ _ h2 (fun z => nomatch z)] at h4; cases h4
        have hlz : l ≠ z := fun e => by rw [e, hz] at h4; cases h4
        have kD : Kp [D] H3 (upd (upd H4 z (.tup [.str t.1, .ref l])) D (.lst (ys ++ [.ref z]))) := (k5.zero).trans (Kp.updL hD5 (by simp))
        refine (ImAll.kp kD i2).append (.cons (.tup (by rw [upd_ne hzD, upd_same]) ⟨by simp, ⟨_, by rw [upd_ne hzD, upd_same]⟩⟩ (.cons (.str _ (by have := g.1.2.1; omega)) (.cons (.tup (by rw [upd_ne hlD, upd_ne hlz]; exact h4) ⟨by rw [List.length_map]; have := g.2.2.2.2; omega, ⟨_, by rw [upd_ne hlD, upd_ne hlz]; exact h4⟩⟩ (dtAll_strs fun w hw => by have := (g.2.1 w hw).2.1; omega)) .nil))) .nil)
      · obtain ⟨ys, h2, i2, l2, k2⟩ := h2
        rw [el, List.take_length] at i2
        refine ⟨D, ys, rfl, .inl ⟨SqL.of h2, fun l hl => ⟨by show 2 ≤ sizeLine; decide, fun r hr' => ?_⟩⟩⟩
        have k3 := Kp.new (ms := []) (o := .tup ys) hl
        have k4 := Kp.new (ms := []) (o := .tup [.str "made", .ref l]) hr'
        have hl4 := k4.tp _ _ (upd_same (H := H2) (a := l))
        exact k r _ ((k2.trans k3).trans k4) (.tup upd_same ⟨by simp, ⟨_, upd_same⟩⟩ (.cons (.str _ (by decide +kernel)) (.cons (.tup hl4 ⟨by rw [l2, el]; omega, ⟨_, hl4⟩⟩ (ImAll.kp (k3.trans k4) i2)) .nil)))
    · refine .inr ⟨_, rfl, p, rfl, ⟨_, .inl (.inl r)⟩, fun D hD => ?_⟩
      refine lc_it (walk_tup (xs := xs)) (fun i H' => ∃ ys, H' D = some (.lst ys) ∧ ImAll H' 2 ys ((tbs.take i).map dTab) ∧ ys.length = i ∧ Kp [] H H') ⟨[], upd_same, .nil, rfl, Kp.new hD⟩ (fun i H2 _ ⟨_, _, _, _, k2⟩ => .inl (.inl (k2.tp _ _ r))) (fun i u H2 H3 hi h2 hy => ?_) (fun H2 h2 => ?_)
      · obtain ⟨ys, h2, i2, l2, k2⟩ := h2
        obtain ⟨rfl, hu⟩ := hy
        obtain ⟨e, he, du⟩ := ax.getV hu
        obtain ⟨t, ht, tt⟩ := htab.get he
        obtain ⟨a, f1, rfl, ha, hf1⟩ := tab_v (du.keep k2) tt
        refine ⟨rfl, _, rfl, a, _, _, .str t.1, rfl, rfl, .inl (.inl ha), atI_nat (k := 0) rfl, _, rfl, a, _, _, .ref f1, rfl, rfl, .inl (.inl ha), atI_nat (k := 1) rfl, ?_⟩
        dsimp only [tNil]
        refine tupO_in hf1 fun l H4 k4 h4 => ⟨by show 2 ≤ sizeLine; decide, fun z hz => ?_⟩
        have g := tt.good
        have k5 := k4.snoc (o := .tup [.str t.1, .ref l]) hz
        have hD5 := k5.at_ _ _ h2 (fun z => nomatch z)
        refine ⟨ys, hD5, by rw [l2]; exact Nat.lt_of_lt_of_le hi (Nat.le_trans lx (by decide)), ys ++ [.ref z], upd_same, ?_, by simp [l2], (k2.trans k5).late hD⟩
        rw [take_snoc ht, List.map_append]
        have hzD : z ≠ D := fun e => by rw [e, k4.at_ _ _ h2 (fun z => nomatch z)] at hz; cases hz
        have hlD : l ≠ D := fun e => by rw [e, k4.at_ _ _ h2 (fun z => nomatch z)] at h4; cases h4
        have hlz : l ≠ z := fun e => by rw [e, hz] at h4; cases h4
        have kD : Kp [D] H3 (upd (upd H4 z (.tup [.str t.1, .ref l])) D (.lst (ys ++ [.ref z]))) := (k5.zero).trans (Kp.updL hD5 (by simp))
        refine (ImAll.kp kD i2).append (.cons (.tup (by rw [upd_ne hzD, upd_same]) ⟨by simp, ⟨_, by rw [upd_ne hzD, upd_same]⟩⟩ (.cons (.str _ (by have := g.1.2.1; omega)) (.cons (.tup (by rw [upd_ne hlD, upd_ne hlz]; exact h4) ⟨by rw [List.length_map]; have := g.2.2.2.2; omega, ⟨_, by rw [upd_ne hlD, upd_ne hlz]; exact h4⟩⟩ (dtAll_strs fun w hw => by have := (g.2.1 w hw).2.1; omega)) .nil))) .nil)
      · obtain ⟨ys, h2, i2, l2, k2⟩ := h2
        rw [el, List.take_length] at i2
        refine ⟨D, ys, rfl, .inl ⟨SqL.of h2, fun l hl => ⟨by show 2 ≤ sizeLine; decide, fun r hr' => ?_⟩⟩⟩
        have k3 := Kp.new (ms := []) (o := .tup ys) hl
        have k4 := Kp.new (ms := []) (o := .tup [.str "made", .ref l]) hr'
        have hl4 := k4.tp _ _ (upd_same (H := H2) (a := l))
        exact k r _ ((k2.trans k3).trans k4) (.tup upd_same ⟨by simp, ⟨_, upd_same⟩⟩ (.cons (.str _ (by decide +kernel)) (.cons (.tup hl4 ⟨by rw [l2, el]; omega, ⟨_, hl4⟩⟩ (ImAll.kp (k3.trans k4) i2)) .nil)))
theorem ok_due (B : Bi mg) (D : Dfn K mg "_law_shape_due" s__law_shape_due ["_law_things"]) (G_row : Has P w K mg base CX0 "_law_row" ["_law_thing"] 1 spIsRow) (G_word : Has P w K mg base CX0 "_law_word" ["_law_thing"] 1 spIsName)
    (G_words : Has P w K mg base CX0 "_law_words" ["_law_thing", "_law_least", "_law_most"] 2 spAreNames) : Has P w K mg base CX0 "_law_shape_due" ["_law_things"] 3 spDue := by
  refine D.has sc__law_shape_due (fun vs H Q E h => ?_) (fun f cdv A outer s H vs Q E hr h => ?_)
  · obtain ⟨S, q, n, x, d, rfl, _⟩ := h; rfl
  · obtain ⟨S, q, n, x, d, rfl, hx, kN, kB⟩ := h
    refine ⟨_, (pss_cons (ps_if (PW.pt (pw_or (pt_not (pt_val (pe_has G_row (hr.mono (by omega)) (pa_cons (pv 0) pa_nil)))) (pw_or (pt_cmpR op_lt (pe_callB call_len (by rfl) B.len PySem.boot_len (pa_cons (pv 0) pa_nil)) pe_int (nomark _)) (pw_or1 (pt_cmpR op_gt (pe_callB call_len (by rfl) B.len PySem.boot_len (pa_cons (pv 0) pa_nil)) pe_int (nomark _))))))
  (pss_one (ps_ret (pe_un un_neg pe_int)))
  pss_nil)
  (pss_cons (ps_for PassesOwn.never rfl (pi_range1 rfl B.range (pa_cons (pe_callB call_len (by rfl) B.len PySem.boot_len (pa_cons (pv 0) pa_nil)) pa_nil)) (pg_name (i := 1) sc__law_shape_due.nd rfl (by first | exact Or.inl rfl | exact Or.inr rfl))
  (pss_cons (ps_set (i := 2) sc__law_shape_due.nd rfl (by first | exact Or.inl rfl | exact Or.inr rfl) (pe_ix (ix_list.or ix_tup) (pv 0) (pv 1) (fun _ _ => rfl)))
  (pss_cons (ps_if (PW.pt (pw_or (pt_not (pt_val (pe_callB call_isi (by rfl) B.isinstance (by decide +kernel) (pa_cons (pv 2) (pa_cons (pe_bltn (v := .ty "tuple") (by rfl) B.tuple (by decide +kernel) rfl) pa_nil))))) (pw_or1 (pt_cmpR op_ne (pe_callB call_len (by rfl) B.len PySem.boot_len (pa_cons (pv 2) pa_nil)) pe_int (nomark _)))))
  (pss_one (ps_ret (pv 1)))
  pss_nil)
  (pss_cons (ps_if (PW.pt (pw_or (pt_not (pt_val (pe_has G_word (hr.mono (by omega)) (pa_cons (pe_ix ix_tup (pv 2) pe_int (fun _ _ => rfl)) pa_nil)))) (pw_or1 (pt_not (pt_val (pe_has G_words (hr.mono (by omega)) (pa_cons (pe_ix ix_tup (pv 2) pe_int (fun _ _ => rfl)) (pa_cons pe_int (pa_cons pe_int pa_nil)))))))))
  (pss_one (ps_ret (pv 1)))
  pss_nil)
  (pss_one (ps_if (pt_cmpR op_in_seq (pe_ix ix_tup (pv 2) pe_int (fun _ _ => rfl)) (pe_lc (own := [("_law_other", 3)]) (g := gName 3) (by rfl) sc__law_shape_due.nd (pi_or (pi_list (pe_slice (sl_list.or sl_tup) (pv 0) po_none (po_some (pv 1)))) (pi_tup (pe_slice (sl_list.or sl_tup) (pv 0) po_none (po_some (pv 1))))) (blkOk_by (own := [("_law_other", 3)]) (N := N__law_shape_due) (sc := defScope s__law_shape_due) (by decide +kernel)) (fun _ _ _ _ _ => (pg_name (i := 3) sc__law_shape_due.nd rfl (by first | exact Or.inl rfl | exact Or.inr rfl))) (fun _ _ _ _ _ => pts_nil) (fun _ _ _ _ _ => (pe_ix (r := rIxT K) ix_tup (pv 3) pe_int (fun _ _ => rfl)))) (by rfl))
  (pss_one (ps_ret (pv 1)))
  pss_nil))))))
  (pss_one (ps_ret pe_non)))), ?_⟩
    refine ⟨_, rfl, S, q, n, x, d, rfl, hx, fun H1 k1 => ⟨_, rfl, ?_⟩⟩
    cases hd : isRowD d with
    | false =>
      refine iteT (iteT ⟨_, rfl, kB (-1) _ k1 (.inl ⟨rfl, ?_⟩)⟩)
      rintro ⟨ds, r, _⟩
      rcases r with rfl | rfl <;> cases hd
    | true =>
      refine iteF ?_
      have hx1 := hx.keep k1
      obtain ⟨ds, m, p, xs, rfl, rfl, rx, lx, _, ax1, hds⟩ := hx1.row hd
      have el : xs.length = ds.length := ax1.len
      have hrow : RowD d ds := hds.elim (fun h => .inl h.1) (fun h => .inr h.1)
      have rowu : ∀ es, RowD d es → es = ds := fun es h => by
        rcases hds with ⟨rfl, _⟩ | ⟨rfl, _⟩ <;> rcases h with e | e <;> first | (cases e; rfl) | cases e
      have len1 : (xs.length < 1 ∨ 5 < xs.length) → ShpBad d (-1) := fun hl => .inl ⟨rfl, by
        rintro ⟨es, r, h1, h2⟩
        rw [rowu es r] at h1 h2
        omega⟩
      refine ⟨_, rfl, _, _, rfl, rx.len, _, _, rfl, rfl, _, rfl, ?_⟩
      refine ite2 (fun h1 => iteT ⟨_, rfl, kB (-1) _ k1 (len1 (.inl (by have := of_decide_eq_true h1; omega)))⟩) (fun h1 => ?_)
      have h1 : ¬ ((xs.length : Int) < 1) := fun h => h1 (decide_eq_true h)
      refine ⟨_, rfl, _, _, rfl, rx.len, _, _, rfl, rfl, _, rfl, ?_⟩
      refine ite2 (fun h2 => ⟨_, rfl, kB (-1) _ k1 (len1 (.inr (by have := of_decide_eq_true h2; omega)))⟩) (fun h2 => ?_)
      have h2 : ¬ (5 < (xs.length : Int)) := fun h => h2 (decide_eq_true h)
      have bad : ∀ (i : Nat) (dy : PyData) (tbs : List (Str × List Str)) (H' : Hp), Kp [] H H' → ds[i]? = some dy → TabsD (ds.take i) tbs → (tbs.map (·.1)).Nodup → (¬ ∃ t, TabD dy t ∧ t.1 ∉ tbs.map (·.1)) → Q (.int (i : Int)) H' := fun i dy tbs H' k' a b c e =>
        kB i H' k' (.inr ⟨ds, i, dy, tbs, hrow, by omega, by omega, rfl, a, b, c, e⟩)
      refine ⟨_, rfl, _, _, rfl, rx.len, (xs.length : Int), rfl, by omega, by omega, ?_⟩
      refine for_range (lo := 0) (n := (xs.length : Int).toNat) (fun i σ H' => (∃ o1 o2, σ = [some (.ref p), o1, o2, none]) ∧ Kp [] H1 H' ∧ ∃ tbs, TabsD (ds.take i) tbs ∧ (tbs.map (·.1)).Nodup) ⟨⟨none, none, rfl⟩, Kp.refl _, [], .nil, List.nodup_nil⟩ ?_ ?_
      · rintro i σ H2 hi' ⟨⟨o1, o2, rfl⟩, k2, tbs, t1, t2⟩
        have hi2 : i < xs.length := by omega
        have ey : xs[i]? = some xs[i] := List.getElem?_eq_getElem hi2
        obtain ⟨dy, hdy, dt⟩ := ax1.getV ey
        have tl : tbs.length = i := by rw [← t1.len, List.length_take]; omega
        rw [show (0 + (i : Int)) = (i : Int) by omega]
        obtain ⟨y, hy⟩ : ∃ y, xs[i] = y := ⟨_, rfl⟩
        rw [hy] at dt ey
        have dt := dt.keep k2
        refine ⟨_, rfl, _, rfl, (rx.keep k2).ix ey ?_⟩
        refine ⟨_, rfl, _, _, _, _, _, rfl, .ty _, dt.ty, kit_ty (kb_tuple _), _, rfl, ?_⟩
        cases dt with
        | @tup m2 p2 ys es r2 l2 a2 =>
          refine iteF ?_
          refine ⟨_, rfl, _, _, rfl, .inr ⟨_, .inl (.inl r2), rfl⟩, rfl, _, rfl, ?_⟩
          by_cases h22 : ys.length = 2
          · rw [show (!decide (V.int (ys.length : Int) = V.int 2)) = false by rw [h22]; rfl]
            refine iteF ?_
            obtain ⟨y0, y1, rfl⟩ : ∃ y0 y1, ys = [y0, y1] := by
              match ys, h22 with
              | [a, b], _ => exact ⟨a, b, rfl⟩
            cases a2 with
            | @cons _ _ _ e0 _ a0 a2 =>
            cases a2 with
            | @cons _ _ _ e1 _ a1 a2 =>
            cases a2
            refine ⟨_, rfl, p2, _, _, y0, rfl, rfl, .inl (.inl r2), atI_nat (k := 0) rfl, S, q, m2, y0, e0, rfl, a0, _, rfl, ?_⟩
            by_cases n0 : NmD e0
            · rw [bP_t n0]
              refine iteF ?_
              refine ⟨_, rfl, p2, _, _, y1, rfl, rfl, .inl (.inl r2), atI_nat (k := 1) rfl, S, q, m2, y1, e1, 1, 4, rfl, a1, fun H2' k2' => ⟨_, rfl, ?_⟩⟩
              have r2 := k2'.tp _ _ r2
              have k2 := k2.trans k2'
              obtain ⟨w0, rfl, nw⟩ := n0
              cases a0 with
              | str _ hz0 =>
              by_cases n1 : ∃ ws, NmsD 1 4 e1 ws
              · rw [bP_t n1]
                refine iteF ?_
                obtain ⟨ws, n1⟩ := n1
                have tD : TabD (.tuple [.str w0, e1]) (w0, ws) := ⟨e1, rfl, nw, n1⟩
                refine ⟨_, rfl, p2, _, _, .str w0, rfl, rfl, .inl (.inl r2), atI_nat (k := 0) rfl, ?_⟩
                obtain ⟨dy, hdy'⟩ : ∃ dy, dy = PyData.tuple [.str w0, e1] := ⟨_, rfl⟩
                rw [← hdy'] at tD hdy
                generalize H2' = H2 at *
                rcases hds with ⟨_, _, rl⟩ | ⟨_, _, rl⟩
                · have rl := k2.rd (fun z => nomatch z) rl
                  refine .inl ⟨_, rfl, _, rfl, _, rfl, ?_⟩
                  refine .inl ⟨p, xs, rfl, .inl rl, fun r3 hr3 => ?_⟩
                  rw [cut_take (by omega)]
                  have k3 : Kp [] H2 (upd H2 r3 (.lst (xs.take i))) := Kp.new hr3
                  obtain ⟨H3, hH3⟩ : ∃ H3, H3 = upd H2 r3 (.lst (xs.take i)) := ⟨_, rfl⟩
                  have hq3 : H3 r3 = some (.lst (xs.take i)) := by rw [hH3]; exact upd_same
                  rw [← hH3] at k3 ⊢
                  have ety : (xs.take i).length = i := by rw [List.length_take]; omega
                  refine ⟨r3, rfl, ⟨_, .inl (.inl hq3)⟩, fun D hD => ?_⟩
                  refine lc_it (walk_list (xs := xs.take i)) (fun j H' => H' D = some (.lst (((tbs.take j).map (·.1)).map V.str)) ∧ Kp [] H3 H') ⟨upd_same, Kp.new hD⟩ (fun j H4 _ ⟨_, k4⟩ => .inl (k4.rd (fun z => nomatch z) (.inl hq3))) (fun j u H4 H5 hj h4 hy => ?_) (fun H4 h4 => ?_)
                  · obtain ⟨h4, k4⟩ := h4
                    obtain ⟨rfl, hu⟩ := hy
                    obtain ⟨e, he, du⟩ := (ax1.take i).getV hu
                    obtain ⟨t, ht, tt⟩ := t1.get he
                    obtain ⟨a, f1, rfl, ha, _⟩ := tab_v (du.keep ((k2.trans k3).trans k4)) tt
                    refine ⟨rfl, _, rfl, a, _, _, .str t.1, rfl, rfl, .inl (.inl ha), atI_nat (k := 0) rfl, ?_⟩
                    refine ⟨_, h4, by rw [List.length_map, List.length_map, List.length_take]; exact Nat.lt_of_le_of_lt (Nat.min_le_right _ _) (by show _ < 16777216; omega), ?_, k4.late hD⟩
                    rw [take_snoc ht, List.map_append, List.map_append]
                    exact upd_same
                  · obtain ⟨h4, k4⟩ := h4
                    rw [ety, show tbs.take i = tbs from List.take_of_length_le (by omega)] at h4
                    refine ⟨D, _, rfl, .inl (SqL.of h4), rfl, flat_strs _, ?_⟩
                    rw [inV_strs]
                    have k24 := (k2.trans k3).trans k4
                    refine ⟨_, rfl, ?_⟩
                    refine ite2 (fun hm => ?_) (fun hm => ?_)
                    · have hm := of_decide_eq_true hm
                      refine ⟨_, rfl, bad i dy tbs _ (k1.trans k24) hdy t1 t2 ?_⟩
                      rintro ⟨t', ht', hn'⟩
                      rw [ht'.inj tD] at hn'
                      exact hn' hm
                    · have hm : w0 ∉ tbs.map (·.1) := fun z => hm (decide_eq_true z)
                      refine ⟨⟨_, _, rfl⟩, k24, tbs ++ [(w0, ws)], ?_, ?_⟩
                      · rw [take_snoc hdy]; exact t1.snoc tD
                      · rw [List.map_append]; exact nd_snoc t2 hm
                · have rl := k2.tp _ _ rl
                  refine .inr ⟨_, rfl, _, rfl, _, rfl, ?_⟩
                  refine .inr ⟨p, xs, rfl, .inl (.inl rl), cut_not (by omega), fun r3 hr3 => ?_⟩
                  rw [cut_take (by omega)]
                  have k3 : Kp [] H2 (upd H2 r3 (.tup (xs.take i))) := Kp.new hr3
                  obtain ⟨H3, hH3⟩ : ∃ H3, H3 = upd H2 r3 (.tup (xs.take i)) := ⟨_, rfl⟩
                  have hq3 : H3 r3 = some (.tup (xs.take i)) := by rw [hH3]; exact upd_same
                  rw [← hH3] at k3 ⊢
                  have ety : (xs.take i).length = i := by rw [List.length_take]; omega
                  refine ⟨r3, rfl, ⟨_, .inl (.inl hq3)⟩, fun D hD => ?_⟩
                  refine lc_it (walk_tup (xs := xs.take i)) (fun j H' => H' D = some (.lst (((tbs.take j).map (·.1)).map V.str)) ∧ Kp [] H3 H') ⟨upd_same, Kp.new hD⟩ (fun j H4 _ ⟨_, k4⟩ => .inl (.inl (k4.tp _ _ hq3))) (fun j u H4 H5 hj h4 hy => ?_) (fun H4 h4 => ?_)
                  · obtain ⟨h4, k4⟩ := h4
                    obtain ⟨rfl, hu⟩ := hy
                    obtain ⟨e, he, du⟩ := (ax1.take i).getV hu
                    obtain ⟨t, ht, tt⟩ := t1.get he
                    obtain ⟨a, f1, rfl, ha, _⟩ := tab_v (du.keep ((k2.trans k3).trans k4)) tt
                    refine ⟨rfl, _, rfl, a, _, _, .str t.1, rfl, rfl, .inl (.inl ha), atI_nat (k := 0) rfl, ?_⟩
                    refine ⟨_, h4, by rw [List.length_map, List.length_map, List.length_take]; exact Nat.lt_of_le_of_lt (Nat.min_le_right _ _) (by show _ < 16777216; omega), ?_, k4.late hD⟩
                    rw [take_snoc ht, List.map_append, List.map_append]
                    exact upd_same
                  · obtain ⟨h4, k4⟩ := h4
                    rw [ety, show tbs.take i = tbs from List.take_of_length_le (by omega)] at h4
                    refine ⟨D, _, rfl, .inl (SqL.of h4), rfl, flat_strs _, ?_⟩
                    rw [inV_strs]
                    have k24 := (k2.trans k3).trans k4
                    refine ⟨_, rfl, ?_⟩
                    refine ite2 (fun hm => ?_) (fun hm => ?_)
                    · have hm := of_decide_eq_true hm
                      refine ⟨_, rfl, bad i dy tbs _ (k1.trans k24) hdy t1 t2 ?_⟩
                      rintro ⟨t', ht', hn'⟩
                      rw [ht'.inj tD] at hn'
                      exact hn' hm
                    · have hm : w0 ∉ tbs.map (·.1) := fun z => hm (decide_eq_true z)
                      refine ⟨⟨_, _, rfl⟩, k24, tbs ++ [(w0, ws)], ?_, ?_⟩
                      · rw [take_snoc hdy]; exact t1.snoc tD
                      · rw [List.map_append]; exact nd_snoc t2 hm
              · rw [bP_f n1]
                refine iteT ⟨_, rfl, bad i _ tbs _ (k1.trans k2) hdy t1 t2 ?_⟩
                rintro ⟨t, ⟨e, h, _, hn⟩, _⟩
                cases h
                exact n1 ⟨_, hn⟩
            · rw [bP_f n0]
              refine iteT (iteT ⟨_, rfl, bad i _ tbs _ (k1.trans k2) hdy t1 t2 ?_⟩)
              rintro ⟨t, ⟨e, h, hn, _⟩, _⟩
              cases h
              exact n0 ⟨_, rfl, hn⟩
          · rw [show (!decide (V.int (ys.length : Int) = V.int 2)) = true by rw [decide_eq_false (fun z => h22 (by injection z with z; omega))]; rfl]
            refine iteT ⟨_, rfl, bad i _ tbs _ (k1.trans k2) hdy t1 t2 ?_⟩
            rintro ⟨t, ⟨e, h, _⟩, _⟩
            cases h
            exact h22 a2.len
        | _ =>
          refine iteT (iteT ⟨_, rfl, bad i _ tbs _ (k1.trans k2) hdy t1 t2 ?_⟩)
          rintro ⟨t, ⟨e, h, _⟩, _⟩
          cases h
      · rintro σ H2 ⟨⟨o1, o2, rfl⟩, k2, tbs, t1, t2⟩
        rw [show (xs.length : Int).toNat = ds.length by omega, List.take_length] at t1
        exact kN tbs H2 (k1.trans k2) ⟨ds, hrow, by omega, by omega, t1, t2⟩
end
end Fm

namespace Fm
open PySem PySem.Spec PyProof.Rows L2
/-! ### plain facts -/
theorem RowD.inj {d : PyData} {ds es : List PyData} (h : RowD d ds) (h' : RowD d es) : ds = es := by
  rcases h with rfl | rfl <;> rcases h' with e | e <;> cases e <;> rfl
theorem ShpD.inj {d : PyData} {ts ts' : List (Str × List Str)} (h : ShpD d ts) (h' : ShpD d ts') : ts = ts' := by
  obtain ⟨ds, r, _, _, t, _⟩ := h
  obtain ⟨ds', r', _, _, t', _⟩ := h'
  rw [r'.inj r] at t'
  exact t.inj t'
theorem TabsD.upto : ∀ {ds : List PyData} {ts : List (Str × List Str)}, TabsD ds ts → ∀ {k : Nat} {us : List (Str × List Str)}, TabsD (ds.take k) us → us = ts.take k := fun h k us h' => h'.inj (h.take k)
theorem ShpD.bad {d : PyData} {ts : List (Str × List Str)} {i : Int} (h : ShpD d ts) (h' : ShpBad d i) : False := by
  obtain ⟨ds, r, g1, g2, t, nd⟩ := h
  rcases h' with ⟨_, h'⟩ | ⟨es, k, e, us, r', _, _, _, he, hu, _, hno⟩
  · exact h' ⟨ds, r, g1, g2⟩
  · rw [r'.inj r] at he hu
    obtain ⟨t1, ht1, td⟩ := t.get he
    refine hno ⟨t1, td, ?_⟩
    rw [t.upto hu, List.map_take]
    exact notin_take nd (by rw [List.getElem?_map, ht1]; rfl)
theorem ShpBad.inj {d : PyData} {i j : Int} (h : ShpBad d i) (h' : ShpBad d j) : i = j := by
  have key : ∀ {es : List PyData} {k k' : Nat} {e e' : PyData} {us us' : List (Str × List Str)}, k < k' → es[k]? = some e → TabsD (es.take k) us → (¬ ∃ t, TabD e t ∧ t.1 ∉ us.map (·.1)) → TabsD (es.take k') us' → (us'.map (·.1)).Nodup → False := fun {es k k' e e' us us'} hk he hu hno hu' nd => by
    have he' : (es.take k')[k]? = some e := by rw [List.getElem?_take, if_pos hk]; exact he
    obtain ⟨t1, ht1, td⟩ := hu'.get he'
    refine hno ⟨t1, td, ?_⟩
    have : us = us'.take k := hu.inj (by have := hu'.take k; rw [List.take_take, Nat.min_eq_left (by omega)] at this; exact this)
    rw [this, List.map_take]
    exact notin_take nd (by rw [List.getElem?_map, ht1]; rfl)
  rcases h with ⟨rfl, h⟩ | ⟨es, k, e, us, r, g1, g2, rfl, he, hu, nd, hno⟩ <;> rcases h' with ⟨rfl, h'⟩ | ⟨es', k', e', us', r', g1', g2', rfl, he', hu', nd', hno'⟩
  · rfl
  · exact absurd ⟨es', r', g1', g2'⟩ h
  · exact absurd ⟨es, r, g1, g2⟩ h'
  · have ee := r'.inj r
    subst ee
    rcases Nat.lt_trichotomy k k' with hk | hk | hk
    · exact (key (e' := e') hk he hu hno hu' nd').elim
    · rw [hk]
    · exact (key (e' := e) hk he' hu' hno' hu nd).elim
theorem wts_strs8 : ∀ {ws : List Str}, (∀ w ∈ ws, IsNm w) → wts (ws.map .str) = ws.length
  | [], _ => rfl
  | w :: ws, h => by
    have h8 := (h w List.mem_cons_self).2.1
    rw [List.map_cons, wts, wt, wts_strs8 fun x hx => h x (List.mem_cons_of_mem _ hx), List.length_cons]
    omega
theorem wt_dTab {t : Str × List Str} (g : GoodT t) : wt (dTab t) ≤ 7 := by
  have h8 := g.1.2.1
  have := g.2.2.2.2
  unfold dTab
  rw [wt, wts, wts, wts, wt, wt, wts_strs8 g.2.1]
  omega
theorem wts_dTabs : ∀ {ts : List (Str × List Str)}, (∀ t ∈ ts, GoodT t) → wts (ts.map dTab) ≤ 7 * ts.length
  | [], _ => Nat.le_refl _
  | t :: ts, h => by
    have h1 := wt_dTab (h t List.mem_cons_self)
    have h2 := wts_dTabs fun x hx => h x (List.mem_cons_of_mem _ hx)
    rw [List.map_cons, wts, List.length_cons]
    omega
theorem sl_dt {K : PySem.W.Frag} {S : Addr → Prop} {H : Hp} {n : Nat} {v : V} {d : PyData} {ds : List PyData} {i : Nat} {Q : VK} (h : Dt S true H n v d) (r : RowD d ds) (hi : i < ds.length) (q : ∀ p H' e, Kp [] H H' → Dt (fun _ => True) true H' n (.ref p) e → RowD e (ds.take i) → Q (.ref p) H') : rSlL K v none (some (i : Int)) H Q ∨ rSlT K v none (some (i : Int)) H Q := by
  have hd : isRowD d = true := by rcases r with rfl | rfl <;> rfl
  obtain ⟨ds', m, p, xs, rfl, rfl, rx, lx, _, ax, hds⟩ := h.row hd
  have e' : ds' = ds := by
    rcases hds with ⟨rfl, _⟩ | ⟨rfl, _⟩ <;> rcases r with e | e <;> cases e <;> rfl
  subst e'
  have hi' : i < xs.length := by rw [ax.len]; exact hi
  have ll : (xs.take i).length ≤ 1000000 := by rw [List.length_take]; omega
  rcases hds with ⟨_, _, r1⟩ | ⟨_, _, r1⟩
  · refine .inl ⟨p, xs, rfl, .inl r1, fun l hl => ?_⟩
    rw [cut_take (by omega)]
    exact q l _ (.list (ds'.take i)) (Kp.new hl) (.lst (.inl upd_same) ⟨ll, trivial⟩ (((ax.take i).keep (Kp.new hl)).imp fun _ _ => trivial)) (.inl rfl)
  · refine .inr ⟨p, xs, rfl, .inl (.inl r1), cut_not hi', fun l hl => ?_⟩
    rw [cut_take (by omega)]
    exact q l _ (.tuple (ds'.take i)) (Kp.new hl) (.tup upd_same ⟨ll, trivial⟩ (((ax.take i).keep (Kp.new hl)).imp fun _ _ => trivial)) (.inr rfl)
def spLaw (K : PySem.W.Frag) : Sp := fun vs H Q _ => ∃ (a : Addr) (ns : List Int), vs = [.ref a] ∧ SqL K H a (ns.map V.int) ∧ ∀ H', Q (.bl true) H'
section
variable {P : Program} {w : World} {K : PySem.W.Frag} {mg : Str → Option Value} {base : Heap}
theorem ok_law {f : Addr} {fd : FuncData} (B : Bi mg) (F : Fun K "law" "law" s_law f fd)
    (G_bag : Has P w K mg base CX0 "_law_bag" ["_law_script"] 1 (spBag K)) (G_pick : Has P w K mg base CX0 "_law_pick" ["_law_bag_here", "_law_many"] 1 spPick) (G_tables : Has P w K mg base CX0 "_law_tables" ["_law_bag_here"] 3 spTables)
    (G_spoiled : Has P w K mg base CX0 "_law_spoiled" ["_law_bag_here", "_law_thing", "_law_names"] 8 (spSpoil 6)) (G_copied : Has P w K mg base CX0 "_law_copied" ["_law_thing"] 13 (spCopied 12))
    (G_shape_due : Has P w K mg base CX0 "_law_shape_due" ["_law_things"] 3 spDue) (G_made : Has P w K mg base CX0 "_law_made" ["_law_things"] 6 spMade)
    (G_alike : Has P w K mg base CX0 "_law_alike" ["_law_one", "_law_other"] 13 (spAlike 12)) (G_tables_due : Has P w K mg base CX0 "_law_tables_due" ["_law_things"] 1 spTDue) :
    FnOk P w K mg base CX0 14 f fd ["_law_script"] (spLaw K) := by
  refine F.ok sc_law (fun vs H Q E h => ?_) (fun cdv A outer s H vs Q E hr h => ?_)
  · obtain ⟨a, ns, rfl, _⟩ := h; rfl
  · obtain ⟨a, ns, rfl, hS, k⟩ := h
    refine ⟨_, (pss_cons (ps_set (i := 1) sc_law.nd rfl (by first | exact Or.inl rfl | exact Or.inr rfl) (pe_has G_bag (hr.mono (by omega)) (pa_cons (pv 0) pa_nil)))
  (pss_cons (ps_set (i := 2) sc_law.nd rfl (by first | exact Or.inl rfl | exact Or.inr rfl) (pe_has G_tables (hr.mono (by omega)) (pa_cons (pv 1) pa_nil)))
  (pss_cons (ps_set (i := 3) sc_law.nd rfl (by first | exact Or.inl rfl | exact Or.inr rfl) (pe_lst pa_nil))
  (pss_cons (ps_for PassesOwn.never rfl (pi_list (pv 2)) (pg_tup rfl (pgs_cons (pg_name (i := 4) sc_law.nd rfl (by first | exact Or.inl rfl | exact Or.inr rfl)) (pgs_cons (pg_name (i := 5) sc_law.nd rfl (by first | exact Or.inl rfl | exact Or.inr rfl)) pgs_nil)))
  (pss_one (ps_expr (pe_bm PySem.F.plainAttrs_list PySem.F.slot_list_extend PySem.F.type_list_extend mt_extend (pv 3) (pa_cons (pe_op op_cat (pe_lst (pa_cons (pv 4) pa_nil)) (pe_callTy call_list_of (by rfl) B.list (by decide +kernel) (pa_cons (pv 5) pa_nil))) pa_nil)))))
  (pss_cons (ps_for PassesOwn.never rfl (pi_range1 rfl B.range (pa_cons (pe_has G_pick (hr.mono (by omega)) (pa_cons (pv 1) (pa_cons pe_int pa_nil))) pa_nil)) (pg_name (i := 6) sc_law.nd rfl (by first | exact Or.inl rfl | exact Or.inr rfl))
  (pss_one (ps_set (i := 2) sc_law.nd rfl (by first | exact Or.inl rfl | exact Or.inr rfl) (pe_has G_spoiled (hr.mono (by omega)) (pa_cons (pv 1) (pa_cons (pv 2) (pa_cons (pv 3) pa_nil)))))))
  (pss_cons (ps_set (i := 7) sc_law.nd rfl (by first | exact Or.inl rfl | exact Or.inr rfl) (pe_has G_copied (hr.mono (by omega)) (pa_cons (pv 2) pa_nil)))
  (pss_cons (ps_set (i := 8) sc_law.nd rfl (by first | exact Or.inl rfl | exact Or.inr rfl) (pe_has G_shape_due (hr.mono (by omega)) (pa_cons (pv 2) pa_nil)))
  (pss_cons (ps_set (i := 9) sc_law.nd rfl (by first | exact Or.inl rfl | exact Or.inr rfl) (pe_has G_made (hr.mono (by omega)) (pa_cons (pv 2) pa_nil)))
  (pss_cons (ps_if (pt_not (pt_val (pe_has G_alike (hr.mono (by omega)) (pa_cons (pv 2) (pa_cons (pv 7) pa_nil)))))
  (pss_one (ps_ret pe_bl))
  pss_nil)
  (pss_cons (ps_if (pt_cmpR op_isN (pv 8) pe_non (nomark _))
  (pss_one (ps_ret (pe_has G_alike (hr.mono (by omega)) (pa_cons (pv 9) (pa_cons (pe_has G_tables_due (hr.mono (by omega)) (pa_cons (pv 2) pa_nil)) pa_nil)))))
  pss_nil)
  (pss_cons (ps_if (pt_not (pt_val (pe_has G_alike (hr.mono (by omega)) (pa_cons (pv 9) (pa_cons (pe_tup (pa_cons pe_str (pa_cons (pv 8) pa_nil))) pa_nil)))))
  (pss_one (ps_ret pe_bl))
  pss_nil)
  (pss_cons (ps_if (pt_cmpR op_gt (pv 8) pe_int (nomark _))
  (pss_one (ps_ret (pe_has G_alike (hr.mono (by omega)) (pa_cons (pe_has G_made (hr.mono (by omega)) (pa_cons (pe_slice (sl_list.or sl_tup) (pv 2) po_none (po_some (pv 8))) pa_nil)) (pa_cons (pe_has G_tables_due (hr.mono (by omega)) (pa_cons (pe_slice (sl_list.or sl_tup) (pv 2) po_none (po_some (pv 8))) pa_nil)) pa_nil)))))
  pss_nil)
  (pss_one (ps_ret pe_bl)))))))))))))), ?_⟩
    refine ⟨_, rfl, a, ns, rfl, hS, fun b c H1 k1 hb hc BG1 => ?_⟩
    refine ⟨_, rfl, b, c, rfl, BG1, fun t xs tbs H2 BG2 k2 ht et it g => ?_⟩
    refine ⟨by show 0 ≤ sizeLine; decide, fun nm hnm => ?_⟩
    obtain ⟨tb, tc⟩ := BG1.new ht
    obtain ⟨nb, nc⟩ := BG2.new hnm
    have k3 : Kp [] H2 (upd H2 nm (.lst [])) := Kp.new hnm
    have el : xs.length = tbs.length := by rw [it.len, List.length_map]
    have g5 := g.2.2.2
    refine ⟨_, rfl, t, rfl, ⟨_, SqL.of (k3.at_ _ _ et (fun z => nomatch z))⟩, ?_⟩
    refine for_it (walk_list (xs := xs)) (fun i σ H' => (∃ o4 o5, σ = [some (.ref a), some (.ref b), some (.ref t), some (.ref nm), o4, o5, none, none, none, none]) ∧ Kp [] H2 H' ∧ ∃ ws : List Str, H' nm = some (.lst (ws.map V.str)) ∧ ws.length ≤ 5 * i ∧ ∀ w ∈ ws, w.length ≤ 8)
      ⟨⟨none, none, rfl⟩, k3, [], upd_same, Nat.le_refl _, (fun w h => nomatch h)⟩ (fun i σ H' _ h => SqL.of (h.2.1.at_ _ _ et (fun z => nomatch z))) ?_ ?_
    · rintro i u σ H3 H4 hi ⟨⟨o4, o5, rfl⟩, k4, ws, w1, w2, w3⟩ ⟨rfl, hu⟩
      obtain ⟨du, hdu, dt⟩ := it.getV hu
      rw [List.getElem?_map] at hdu
      cases e1 : tbs[i]? with
      | none => rw [e1] at hdu; cases hdu
      | some tt =>
        rw [e1] at hdu
        cases hdu
        have gt := g.1 tt (List.mem_of_getElem? e1)
        obtain ⟨a', b', rfl, f1, f2⟩ := Im.tab (n := 0) (Im.kp k4 dt)
        have f3 : H4 b' = some (.tup (tt.2.map V.str)) := by
          cases f2 with
          | tup r _ x => rw [r, DtAll.strs x]
        have g8 := gt.1.2.1
        have g4 := gt.2.2.2.2
        refine ⟨a', _, rfl, SqT.of f1, rfl, _, _, rfl, _, _, rfl, rfl, ?_⟩
        refine ⟨_, rfl, .inl ⟨rfl, _, SqL.of w1⟩, _, rfl, by show 1 ≤ sizeLine; decide, fun q1 hq1 => ?_⟩
        have m1 := Kp.new (ms := []) (o := .lst [.str tt.1]) hq1
        refine ⟨_, rfl, b', _, rfl, .inr (SqT.of (m1.tp _ _ f3)), fun q2 hq2 => ?_⟩
        have m2 := Kp.new (ms := []) (o := .lst (tt.2.map V.str)) hq2
        have e2 := m2.at_ _ _ (upd_same (H := H4) (a := q1)) (fun z => nomatch z)
        refine ⟨q1, q2, _, _, rfl, rfl, e2, upd_same, by rw [List.length_map]; show 1 + _ ≤ 16777216; omega, fun q3 hq3 => ?_⟩
        have m3 := Kp.new (ms := []) (o := .lst ([.str tt.1] ++ tt.2.map V.str)) hq3
        have m4 := (m1.trans m2).trans m3
        have w1' := m4.at_ _ _ w1 (fun z => nomatch z)
        refine ⟨nm, q3, _, _, rfl, rfl, w1', upd_same, ?_, ?_⟩
        · rw [List.length_map, List.length_append, List.length_map]
          show _ + (1 + _) ≤ 16777216
          omega
        refine ⟨⟨_, _, rfl⟩, (k4.trans m4).late hnm, ws ++ (tt.1 :: tt.2), by rw [List.map_append]; exact upd_same, ?_, ?_⟩
        · rw [List.length_append, List.length_cons]; omega
        · intro w' hw'
          rcases List.mem_append.mp hw' with h | h
          · exact w3 w' h
          · rcases List.mem_cons.mp h with h | h
            · rw [h]; exact g8
            · exact (gt.2.1 w' h).2.1
    · rintro σ H3 ⟨⟨o4, o5, rfl⟩, k4, ws, w1, w2, w3⟩
      have BG3 := BG2.keep0 k4
      obtain ⟨ob, hob⟩ := BG3.someB
      refine ⟨_, rfl, b, c, 3, rfl, BG3, by decide, by decide, fun r H4 r0 r1 BG4 k5 => ?_⟩
      refine ⟨r, rfl, by omega, by omega, ?_⟩
      have et4 := k5.at_ _ _ (k4.at_ _ _ et (fun z => nomatch z)) (by simpa using tb)
      have w14 := k5.at_ _ _ w1 (by simpa using nb)
      have it4 := ImAll.kp k5 (ImAll.kp k4 it)
      have d0 : Dt (· ≠ b) true H4 3 (.ref t) (.list (tbs.map dTab)) := .lst (.inl et4) ⟨by omega, tb⟩ (it4.imp fun x hx z => by
        obtain ⟨zs, hzs⟩ := hx
        obtain ⟨_, _, _, _, _, hbb, _⟩ := BG4.bg
        rw [z, hbb] at hzs; cases hzs)
      have wt0 : wt (.list (tbs.map dTab)) ≤ 36 := by rw [wt]; have := wts_dTabs g.1; omega
      refine for_range (lo := 0) (n := r.toNat) (fun j σ H' => ∃ v o6 n W d, σ = [some (.ref a), some (.ref b), some v, some (.ref nm), o4, o5, o6, none, none, none] ∧ Bag H' b c ∧ Kp [b] H4 H' ∧ ((j = 0 ∧ n = 3 ∧ W = 36) ∨ (j = 1 ∧ n = 6 ∧ W = 600) ∨ (j = 2 ∧ n = 12 ∧ W = 10000)) ∧ Dt (· ≠ b) true H' n v d ∧ wt d ≤ W)
        ⟨.ref t, none, 3, 36, _, rfl, BG4, Kp.refl _, .inl ⟨rfl, rfl, rfl⟩, d0, wt0⟩ ?_ ?_
      · rintro j σ H5 hj ⟨v, o6, n, W, d, rfl, BG5, k6, hnW, dv, wv⟩
        have w15 := k6.at_ _ _ w14 (by simpa using nb)
        refine ⟨_, rfl, _, rfl, _, rfl, n, b, c, nm, v, d, ws, rfl, by omega, by omega, BG5, dv, by omega, w15, nb, by omega, w3, fun v' e' H6 BG6 k7 d6 w6 => ?_⟩
        rcases hnW with ⟨rfl, rfl, rfl⟩ | ⟨rfl, rfl, rfl⟩ | ⟨rfl, rfl, rfl⟩
        · exact ⟨v', _, 6, 600, e', rfl, BG6, k6.trans k7, .inr (.inl ⟨rfl, rfl, rfl⟩), d6, by omega⟩
        · exact ⟨v', _, 12, 10000, e', rfl, BG6, k6.trans k7, .inr (.inr ⟨rfl, rfl, rfl⟩), d6, by omega⟩
        · omega
      · rintro σ H5 ⟨v, o6, n, W, d, rfl, BG5, k6, hnW, dv, wv⟩
        have dv : Dt (· ≠ b) true H5 12 v d := dv.mono (by omega)
        refine ⟨_, rfl, (· ≠ b), v, d, rfl, dv, fun y H6 k7 dy => ?_⟩
        have dv6 := dv.keep k7
        refine ⟨_, rfl, (· ≠ b), true, 12, v, d, rfl, dv6, fun us H7 k8 hU => ?_, fun i H7 k8 hB => ?_⟩
        · have dv7 := dv6.keep k8
          refine ⟨_, rfl, (· ≠ b), true, 12, v, d, rfl, dv7, fun us' q H8 k9 hU' im => ?_, fun i q H8 k9 hB im => (hU.bad hB).elim⟩
          have dv8 := dv7.keep k9
          refine ⟨_, rfl, _, rfl, (· ≠ b), _, v, y, d, rfl, dv8, ((dy.keep k8).keep k9).weak, fun H9 k10 => ⟨_, rfl, iteF ?_⟩⟩
          refine ⟨_, rfl, rfl, _, rfl, iteT ?_⟩
          refine ⟨_, rfl, _, rfl, (· ≠ b), true, 12, v, d, us', rfl, dv8.keep k10, hU', fun q2 H10 k11 im2 => ?_⟩
          refine ⟨_, _, .ref q, .ref q2, _, rfl, (((im.mono (m := 12) (by decide)).keep k10).keep k11), (im2.mono (m := 12) (by decide)).weak, fun H11 _ => k H11⟩
        · have dv7 := dv6.keep k8
          refine ⟨_, rfl, (· ≠ b), true, 12, v, d, rfl, dv7, fun us' q H8 k9 hU' im => (hU'.bad hB).elim, fun i' q H8 k9 hB' im => ?_⟩
          obtain rfl := hB.inj hB'
          have dv8 := dv7.keep k9
          refine ⟨_, rfl, _, rfl, (· ≠ b), _, v, y, d, rfl, dv8, ((dy.keep k8).keep k9).weak, fun H9 k10 => ⟨_, rfl, iteF ?_⟩⟩
          have dv9 := dv8.keep k10
          refine ⟨_, rfl, rfl, _, rfl, iteF ?_⟩
          refine ⟨_, rfl, _, rfl, by show 2 ≤ sizeLine; decide, fun q2 hq2 => ?_⟩
          have m1 := Kp.new (ms := []) (o := .tup [.str "refused", .int i]) hq2
          have im9 := ((im.mono (m := 12) (by decide)).keep k10).keep m1
          have im2 : Dt (fun _ => True) false (upd H9 q2 (.tup [.str "refused", .int i])) 12 (.ref q2) (.tuple [.str "refused", .int i]) := .tup upd_same ⟨by simp, trivial⟩ (.cons (.str _ (by decide +kernel)) (.cons (.int i) .nil))
          refine ⟨_, _, .ref q, .ref q2, _, rfl, im9, im2, fun H10 k11 => ⟨_, rfl, iteF ?_⟩⟩
          have dv10 := (dv9.keep m1).keep k11
          refine ⟨_, rfl, _, _, rfl, rfl, _, rfl, ?_⟩
          refine ite2 (fun hp => ?_) (fun _ => k H10)
          have hp := of_decide_eq_true hp
          rcases hB with ⟨rfl, _⟩ | ⟨ds, kk, e, us, rr, g1, g2, rfl, he, hu, nd, hno⟩
          · omega
          have hk : kk < ds.length := (List.getElem?_eq_some_iff.mp he).1
          have shp : ∀ e2, RowD e2 (ds.take kk) → ShpD e2 us := fun e2 r2 => ⟨_, r2, by rw [List.length_take]; omega, by rw [List.length_take]; omega, hu, nd⟩
          refine ⟨_, rfl, _, rfl, _, rfl, sl_dt dv10 rr hk fun q3 H11 e2 k12 d11 r11 => ?_⟩
          refine ⟨_, true, 12, .ref q3, e2, rfl, d11, fun us' q4 H12 k13 hU' im4 => ?_, fun i' q4 H12 k13 hB' _ => ((shp e2 r11).bad hB').elim⟩
          obtain rfl := (shp e2 r11).inj hU'
          refine ⟨_, rfl, _, rfl, _, rfl, sl_dt ((dv10.keep k12).keep k13) rr hk fun q5 H13 e3 k14 d13 r13 => ?_⟩
          refine ⟨_, true, 12, .ref q5, e3, _, rfl, d13, shp e3 r13, fun q6 H14 k15 im6 => ?_⟩
          exact ⟨_, _, .ref q4, .ref q6, _, rfl, ((im4.mono (m := 12) (by decide)).keep k14).keep k15, (im6.mono (m := 12) (by decide)).weak, fun H15 _ => k H15⟩
end
end Fm

namespace Fm
open PySem PySem.Spec PyProof.Rows L2
theorem ok_BadShape_init {P : Program} {w : World} {K : PySem.W.Frag} {mg : Str → Option Value} {base : Heap} {f C : Addr} {fd : FuncData} (F : Fun K "__init__" "BadShape.__init__" s_BadShape_init f fd) (ox : OexC K C) (no : PySem.W.findIn K (.ref C) "at" = some none) : FnOk P w K mg base CX0 1 f fd ["self", "at"] (spErr C "at") := by
  refine F.ok sc_BadShape_init (fun vs H Q E h => ?_) (fun cdv A outer s H vs Q E hr h => ⟨_, pss_one (ps_ost (pv 0) (pv 1)), ?_⟩)
  · obtain ⟨a, y, rfl, _⟩ := h; rfl
  · obtain ⟨a, y, rfl, ha, k⟩ := h
    exact ⟨_, rfl, _, rfl, a, C, rfl, ox, no, .inl ⟨ha, fun dx h1 h2 => k dx h1 h2⟩⟩
theorem all_mk {l : PySem.W.OpenLaw} {w : World} {K : PySem.W.Frag} {h : Heap} {mg : Str → Option Value} {fa : Addr} (X : K.In h) (G : h.Ns mainGlobals mg) (hfa : mg "law" = some (.ref fa))
    {tk_LETTERS : Tok}
    {f_is_row : Addr} {od_is_row an_is_row : Option Addr} {sl_is_row : Array (Option Value)} {oc_is_row kV_is_row dc_is_row pm_is_row cd_is_row ct_is_row : Value}
    {f_is_name : Addr} {od_is_name an_is_name : Option Addr} {sl_is_name : Array (Option Value)} {oc_is_name kV_is_name dc_is_name pm_is_name cd_is_name ct_is_name : Value}
    {f_are_names : Addr} {od_are_names an_are_names : Option Addr} {sl_are_names : Array (Option Value)} {oc_are_names kV_are_names dc_are_names pm_are_names cd_are_names ct_are_names : Value}
    {f_is_table : Addr} {od_is_table an_is_table : Option Addr} {sl_is_table : Array (Option Value)} {oc_is_table kV_is_table dc_is_table pm_is_table cd_is_table ct_is_table : Value}
    {f_law_bag : Addr} {od_law_bag an_law_bag : Option Addr} {sl_law_bag : Array (Option Value)} {oc_law_bag kV_law_bag dc_law_bag pm_law_bag cd_law_bag ct_law_bag : Value}
    {f_law_pick : Addr} {od_law_pick an_law_pick : Option Addr} {sl_law_pick : Array (Option Value)} {oc_law_pick kV_law_pick dc_law_pick pm_law_pick cd_law_pick ct_law_pick : Value}
    {f_law_name : Addr} {od_law_name an_law_name : Option Addr} {sl_law_name : Array (Option Value)} {oc_law_name kV_law_name dc_law_name pm_law_name cd_law_name ct_law_name : Value}
    {f_law_tables : Addr} {od_law_tables an_law_tables : Option Addr} {sl_law_tables : Array (Option Value)} {oc_law_tables kV_law_tables dc_law_tables pm_law_tables cd_law_tables ct_law_tables : Value}
    {f_law_integer : Addr} {od_law_integer an_law_integer : Option Addr} {sl_law_integer : Array (Option Value)} {oc_law_integer kV_law_integer dc_law_integer pm_law_integer cd_law_integer ct_law_integer : Value}
    {f_law_row : Addr} {od_law_row an_law_row : Option Addr} {sl_law_row : Array (Option Value)} {oc_law_row kV_law_row dc_law_row pm_law_row cd_law_row ct_law_row : Value}
    {f_law_word : Addr} {od_law_word an_law_word : Option Addr} {sl_law_word : Array (Option Value)} {oc_law_word kV_law_word dc_law_word pm_law_word cd_law_word ct_law_word : Value}
    {f_law_words : Addr} {od_law_words an_law_words : Option Addr} {sl_law_words : Array (Option Value)} {oc_law_words kV_law_words dc_law_words pm_law_words cd_law_words ct_law_words : Value}
    {f_law_shape_due : Addr} {od_law_shape_due an_law_shape_due : Option Addr} {sl_law_shape_due : Array (Option Value)} {oc_law_shape_due kV_law_shape_due dc_law_shape_due pm_law_shape_due cd_law_shape_due ct_law_shape_due : Value}
    {f_law_copied : Addr} {od_law_copied an_law_copied : Option Addr} {sl_law_copied : Array (Option Value)} {oc_law_copied kV_law_copied dc_law_copied pm_law_copied cd_law_copied ct_law_copied : Value}
    {f_law_alike : Addr} {od_law_alike an_law_alike : Option Addr} {sl_law_alike : Array (Option Value)} {oc_law_alike kV_law_alike dc_law_alike pm_law_alike cd_law_alike ct_law_alike : Value}
    {f_law_places : Addr} {od_law_places an_law_places : Option Addr} {sl_law_places : Array (Option Value)} {oc_law_places kV_law_places dc_law_places pm_law_places cd_law_places ct_law_places : Value}
    {f_law_at : Addr} {od_law_at an_law_at : Option Addr} {sl_law_at : Array (Option Value)} {oc_law_at kV_law_at dc_law_at pm_law_at cd_law_at ct_law_at : Value}
    {f_law_with : Addr} {od_law_with an_law_with : Option Addr} {sl_law_with : Array (Option Value)} {oc_law_with kV_law_with dc_law_with pm_law_with cd_law_with ct_law_with : Value}
    {f_law_deep : Addr} {od_law_deep an_law_deep : Option Addr} {sl_law_deep : Array (Option Value)} {oc_law_deep kV_law_deep dc_law_deep pm_law_deep cd_law_deep ct_law_deep : Value}
    {f_law_odd : Addr} {od_law_odd an_law_odd : Option Addr} {sl_law_odd : Array (Option Value)} {oc_law_odd kV_law_odd dc_law_odd pm_law_odd cd_law_odd ct_law_odd : Value}
    {f_law_other_number : Addr} {od_law_other_number an_law_other_number : Option Addr} {sl_law_other_number : Array (Option Value)} {oc_law_other_number kV_law_other_number dc_law_other_number pm_law_other_number cd_law_other_number ct_law_other_number : Value}
    {f_law_other_string : Addr} {od_law_other_string an_law_other_string : Option Addr} {sl_law_other_string : Array (Option Value)} {oc_law_other_string kV_law_other_string dc_law_other_string pm_law_other_string cd_law_other_string ct_law_other_string : Value}
    {f_law_other_row : Addr} {od_law_other_row an_law_other_row : Option Addr} {sl_law_other_row : Array (Option Value)} {oc_law_other_row kV_law_other_row dc_law_other_row pm_law_other_row cd_law_other_row ct_law_other_row : Value}
    {f_law_spoiled : Addr} {od_law_spoiled an_law_spoiled : Option Addr} {sl_law_spoiled : Array (Option Value)} {oc_law_spoiled kV_law_spoiled dc_law_spoiled pm_law_spoiled cd_law_spoiled ct_law_spoiled : Value}
    {f_law_made : Addr} {od_law_made an_law_made : Option Addr} {sl_law_made : Array (Option Value)} {oc_law_made kV_law_made dc_law_made pm_law_made cd_law_made ct_law_made : Value}
    {f_law_tables_due : Addr} {od_law_tables_due an_law_tables_due : Option Addr} {sl_law_tables_due : Array (Option Value)} {oc_law_tables_due kV_law_tables_due dc_law_tables_due pm_law_tables_due cd_law_tables_due ct_law_tables_due : Value}
    {C_Shape : Addr}
    {f_Shape_init : Addr} {od_Shape_init an_Shape_init : Option Addr} {sl_Shape_init : Array (Option Value)} {oc_Shape_init kV_Shape_init dc_Shape_init pm_Shape_init cd_Shape_init ct_Shape_init : Value}
    {C_MetError : Addr}
    {C_BadShape : Addr} {nm_BadShape q_BadShape : Str} {N_BadShape : Addr} {bs_BadShape : List Value} {sn_BadShape : List Str} {sub_BadShape : List Value} {ab_BadShape : Bool} {col_BadShape : Option Bool} {dd_BadShape : Option Addr} {m0_BadShape m1_BadShape m2_BadShape m3_BadShape m5_BadShape : Option Value}
    {f_BadShape_init : Addr} {od_BadShape_init an_BadShape_init : Option Addr} {sl_BadShape_init : Array (Option Value)} {oc_BadShape_init kV_BadShape_init dc_BadShape_init pm_BadShape_init cd_BadShape_init ct_BadShape_init : Value}
    {f_law : Addr} {od_law an_law : Option Addr} {sl_law : Array (Option Value)} {oc_law kV_law dc_law pm_law cd_law ct_law : Value}
    (z_len : PySem.W.nsIn K mainGlobals "len" = some none)
    (z_list : PySem.W.nsIn K mainGlobals "list" = some none)
    (z_tuple : PySem.W.nsIn K mainGlobals "tuple" = some none)
    (z_isinstance : PySem.W.nsIn K mainGlobals "isinstance" = some none)
    (z_int : PySem.W.nsIn K mainGlobals "int" = some none)
    (z_range : PySem.W.nsIn K mainGlobals "range" = some none)
    (z_max : PySem.W.nsIn K mainGlobals "max" = some none)
    (z_all : PySem.W.nsIn K mainGlobals "all" = some none)
    (z_bool : PySem.W.nsIn K mainGlobals "bool" = some none)
    (z_dict : PySem.W.nsIn K mainGlobals "dict" = some none)
    (z_str : PySem.W.nsIn K mainGlobals "str" = some none)
    (z_enumerate : PySem.W.nsIn K mainGlobals "enumerate" = some none)
    (z_min : PySem.W.nsIn K mainGlobals "min" = some none)
    (n_LETTERS : PySem.W.nsIn K mainGlobals "LETTERS" = some (some (.str abc tk_LETTERS)))
    (a_is_row : PySem.W.nsIn K mainGlobals "is_row" = some (some (.ref f_is_row)))
    (l_is_row : K.lookup f_is_row = some ⟨oc_is_row, od_is_row, .func (PySem.W.fnOf "is_row" "is_row" (defArgs s_is_row) (defBody s_is_row) (defScope s_is_row) .none kV_is_row dc_is_row pm_is_row an_is_row cd_is_row ct_is_row), sl_is_row⟩)
    (c_is_row : PySem.W.codeIn K cd_is_row "is_row" = true)
    (k_is_row : PySem.W.keepIn K (.ref f_is_row) = true)
    (a_is_name : PySem.W.nsIn K mainGlobals "is_name" = some (some (.ref f_is_name)))
    (l_is_name : K.lookup f_is_name = some ⟨oc_is_name, od_is_name, .func (PySem.W.fnOf "is_name" "is_name" (defArgs s_is_name) (defBody s_is_name) (defScope s_is_name) .none kV_is_name dc_is_name pm_is_name an_is_name cd_is_name ct_is_name), sl_is_name⟩)
    (c_is_name : PySem.W.codeIn K cd_is_name "is_name" = true)
    (k_is_name : PySem.W.keepIn K (.ref f_is_name) = true)
    (a_are_names : PySem.W.nsIn K mainGlobals "are_names" = some (some (.ref f_are_names)))
    (l_are_names : K.lookup f_are_names = some ⟨oc_are_names, od_are_names, .func (PySem.W.fnOf "are_names" "are_names" (defArgs s_are_names) (defBody s_are_names) (defScope s_are_names) .none kV_are_names dc_are_names pm_are_names an_are_names cd_are_names ct_are_names), sl_are_names⟩)
    (c_are_names : PySem.W.codeIn K cd_are_names "are_names" = true)
    (k_are_names : PySem.W.keepIn K (.ref f_are_names) = true)
    (a_is_table : PySem.W.nsIn K mainGlobals "is_table" = some (some (.ref f_is_table)))
    (l_is_table : K.lookup f_is_table = some ⟨oc_is_table, od_is_table, .func (PySem.W.fnOf "is_table" "is_table" (defArgs s_is_table) (defBody s_is_table) (defScope s_is_table) .none kV_is_table dc_is_table pm_is_table an_is_table cd_is_table ct_is_table), sl_is_table⟩)
    (c_is_table : PySem.W.codeIn K cd_is_table "is_table" = true)
    (k_is_table : PySem.W.keepIn K (.ref f_is_table) = true)
    (a_law_bag : PySem.W.nsIn K mainGlobals "_law_bag" = some (some (.ref f_law_bag)))
    (l_law_bag : K.lookup f_law_bag = some ⟨oc_law_bag, od_law_bag, .func (PySem.W.fnOf "_law_bag" "_law_bag" (defArgs s__law_bag) (defBody s__law_bag) (defScope s__law_bag) .none kV_law_bag dc_law_bag pm_law_bag an_law_bag cd_law_bag ct_law_bag), sl_law_bag⟩)
    (c_law_bag : PySem.W.codeIn K cd_law_bag "_law_bag" = true)
    (k_law_bag : PySem.W.keepIn K (.ref f_law_bag) = true)
    (a_law_pick : PySem.W.nsIn K mainGlobals "_law_pick" = some (some (.ref f_law_pick)))
    (l_law_pick : K.lookup f_law_pick = some ⟨oc_law_pick, od_law_pick, .func (PySem.W.fnOf "_law_pick" "_law_pick" (defArgs s__law_pick) (defBody s__law_pick) (defScope s__law_pick) .none kV_law_pick dc_law_pick pm_law_pick an_law_pick cd_law_pick ct_law_pick), sl_law_pick⟩)
    (c_law_pick : PySem.W.codeIn K cd_law_pick "_law_pick" = true)
    (k_law_pick : PySem.W.keepIn K (.ref f_law_pick) = true)
    (a_law_name : PySem.W.nsIn K mainGlobals "_law_name" = some (some (.ref f_law_name)))
    (l_law_name : K.lookup f_law_name = some ⟨oc_law_name, od_law_name, .func (PySem.W.fnOf "_law_name" "_law_name" (defArgs s__law_name) (defBody s__law_name) (defScope s__law_name) .none kV_law_name dc_law_name pm_law_name an_law_name cd_law_name ct_law_name), sl_law_name⟩)
    (c_law_name : PySem.W.codeIn K cd_law_name "_law_name" = true)
    (k_law_name : PySem.W.keepIn K (.ref f_law_name) = true)
    (a_law_tables : PySem.W.nsIn K mainGlobals "_law_tables" = some (some (.ref f_law_tables)))
    (l_law_tables : K.lookup f_law_tables = some ⟨oc_law_tables, od_law_tables, .func (PySem.W.fnOf "_law_tables" "_law_tables" (defArgs s__law_tables) (defBody s__law_tables) (defScope s__law_tables) .none kV_law_tables dc_law_tables pm_law_tables an_law_tables cd_law_tables ct_law_tables), sl_law_tables⟩)
    (c_law_tables : PySem.W.codeIn K cd_law_tables "_law_tables" = true)
    (k_law_tables : PySem.W.keepIn K (.ref f_law_tables) = true)
    (a_law_integer : PySem.W.nsIn K mainGlobals "_law_integer" = some (some (.ref f_law_integer)))
    (l_law_integer : K.lookup f_law_integer = some ⟨oc_law_integer, od_law_integer, .func (PySem.W.fnOf "_law_integer" "_law_integer" (defArgs s__law_integer) (defBody s__law_integer) (defScope s__law_integer) .none kV_law_integer dc_law_integer pm_law_integer an_law_integer cd_law_integer ct_law_integer), sl_law_integer⟩)
    (c_law_integer : PySem.W.codeIn K cd_law_integer "_law_integer" = true)
    (k_law_integer : PySem.W.keepIn K (.ref f_law_integer) = true)
    (a_law_row : PySem.W.nsIn K mainGlobals "_law_row" = some (some (.ref f_law_row)))
    (l_law_row : K.lookup f_law_row = some ⟨oc_law_row, od_law_row, .func (PySem.W.fnOf "_law_row" "_law_row" (defArgs s__law_row) (defBody s__law_row) (defScope s__law_row) .none kV_law_row dc_law_row pm_law_row an_law_row cd_law_row ct_law_row), sl_law_row⟩)
    (c_law_row : PySem.W.codeIn K cd_law_row "_law_row" = true)
    (k_law_row : PySem.W.keepIn K (.ref f_law_row) = true)
    (a_law_word : PySem.W.nsIn K mainGlobals "_law_word" = some (some (.ref f_law_word)))
    (l_law_word : K.lookup f_law_word = some ⟨oc_law_word, od_law_word, .func (PySem.W.fnOf "_law_word" "_law_word" (defArgs s__law_word) (defBody s__law_word) (defScope s__law_word) .none kV_law_word dc_law_word pm_law_word an_law_word cd_law_word ct_law_word), sl_law_word⟩)
    (c_law_word : PySem.W.codeIn K cd_law_word "_law_word" = true)
    (k_law_word : PySem.W.keepIn K (.ref f_law_word) = true)
    (a_law_words : PySem.W.nsIn K mainGlobals "_law_words" = some (some (.ref f_law_words)))
    (l_law_words : K.lookup f_law_words = some ⟨oc_law_words, od_law_words, .func (PySem.W.fnOf "_law_words" "_law_words" (defArgs s__law_words) (defBody s__law_words) (defScope s__law_words) .none kV_law_words dc_law_words pm_law_words an_law_words cd_law_words ct_law_words), sl_law_words⟩)
    (c_law_words : PySem.W.codeIn K cd_law_words "_law_words" = true)
    (k_law_words : PySem.W.keepIn K (.ref f_law_words) = true)
    (a_law_shape_due : PySem.W.nsIn K mainGlobals "_law_shape_due" = some (some (.ref f_law_shape_due)))
    (l_law_shape_due : K.lookup f_law_shape_due = some ⟨oc_law_shape_due, od_law_shape_due, .func (PySem.W.fnOf "_law_shape_due" "_law_shape_due" (defArgs s__law_shape_due) (defBody s__law_shape_due) (defScope s__law_shape_due) .none kV_law_shape_due dc_law_shape_due pm_law_shape_due an_law_shape_due cd_law_shape_due ct_law_shape_due), sl_law_shape_due⟩)
    (c_law_shape_due : PySem.W.codeIn K cd_law_shape_due "_law_shape_due" = true)
    (k_law_shape_due : PySem.W.keepIn K (.ref f_law_shape_due) = true)
    (a_law_copied : PySem.W.nsIn K mainGlobals "_law_copied" = some (some (.ref f_law_copied)))
    (l_law_copied : K.lookup f_law_copied = some ⟨oc_law_copied, od_law_copied, .func (PySem.W.fnOf "_law_copied" "_law_copied" (defArgs s__law_copied) (defBody s__law_copied) (defScope s__law_copied) .none kV_law_copied dc_law_copied pm_law_copied an_law_copied cd_law_copied ct_law_copied), sl_law_copied⟩)
    (c_law_copied : PySem.W.codeIn K cd_law_copied "_law_copied" = true)
    (k_law_copied : PySem.W.keepIn K (.ref f_law_copied) = true)
    (a_law_alike : PySem.W.nsIn K mainGlobals "_law_alike" = some (some (.ref f_law_alike)))
    (l_law_alike : K.lookup f_law_alike = some ⟨oc_law_alike, od_law_alike, .func (PySem.W.fnOf "_law_alike" "_law_alike" (defArgs s__law_alike) (defBody s__law_alike) (defScope s__law_alike) .none kV_law_alike dc_law_alike pm_law_alike an_law_alike cd_law_alike ct_law_alike), sl_law_alike⟩)
    (c_law_alike : PySem.W.codeIn K cd_law_alike "_law_alike" = true)
    (k_law_alike : PySem.W.keepIn K (.ref f_law_alike) = true)
    (a_law_places : PySem.W.nsIn K mainGlobals "_law_places" = some (some (.ref f_law_places)))
    (l_law_places : K.lookup f_law_places = some ⟨oc_law_places, od_law_places, .func (PySem.W.fnOf "_law_places" "_law_places" (defArgs s__law_places) (defBody s__law_places) (defScope s__law_places) .none kV_law_places dc_law_places pm_law_places an_law_places cd_law_places ct_law_places), sl_law_places⟩)
    (c_law_places : PySem.W.codeIn K cd_law_places "_law_places" = true)
    (k_law_places : PySem.W.keepIn K (.ref f_law_places) = true)
    (a_law_at : PySem.W.nsIn K mainGlobals "_law_at" = some (some (.ref f_law_at)))
    (l_law_at : K.lookup f_law_at = some ⟨oc_law_at, od_law_at, .func (PySem.W.fnOf "_law_at" "_law_at" (defArgs s__law_at) (defBody s__law_at) (defScope s__law_at) .none kV_law_at dc_law_at pm_law_at an_law_at cd_law_at ct_law_at), sl_law_at⟩)
    (c_law_at : PySem.W.codeIn K cd_law_at "_law_at" = true)
    (k_law_at : PySem.W.keepIn K (.ref f_law_at) = true)
    (a_law_with : PySem.W.nsIn K mainGlobals "_law_with" = some (some (.ref f_law_with)))
    (l_law_with : K.lookup f_law_with = some ⟨oc_law_with, od_law_with, .func (PySem.W.fnOf "_law_with" "_law_with" (defArgs s__law_with) (defBody s__law_with) (defScope s__law_with) .none kV_law_with dc_law_with pm_law_with an_law_with cd_law_with ct_law_with), sl_law_with⟩)
    (c_law_with : PySem.W.codeIn K cd_law_with "_law_with" = true)
    (k_law_with : PySem.W.keepIn K (.ref f_law_with) = true)
    (a_law_deep : PySem.W.nsIn K mainGlobals "_law_deep" = some (some (.ref f_law_deep)))
    (l_law_deep : K.lookup f_law_deep = some ⟨oc_law_deep, od_law_deep, .func (PySem.W.fnOf "_law_deep" "_law_deep" (defArgs s__law_deep) (defBody s__law_deep) (defScope s__law_deep) .none kV_law_deep dc_law_deep pm_law_deep an_law_deep cd_law_deep ct_law_deep), sl_law_deep⟩)
    (c_law_deep : PySem.W.codeIn K cd_law_deep "_law_deep" = true)
    (k_law_deep : PySem.W.keepIn K (.ref f_law_deep) = true)
    (a_law_odd : PySem.W.nsIn K mainGlobals "_law_odd" = some (some (.ref f_law_odd)))
    (l_law_odd : K.lookup f_law_odd = some ⟨oc_law_odd, od_law_odd, .func (PySem.W.fnOf "_law_odd" "_law_odd" (defArgs s__law_odd) (defBody s__law_odd) (defScope s__law_odd) .none kV_law_odd dc_law_odd pm_law_odd an_law_odd cd_law_odd ct_law_odd), sl_law_odd⟩)
    (c_law_odd : PySem.W.codeIn K cd_law_odd "_law_odd" = true)
    (k_law_odd : PySem.W.keepIn K (.ref f_law_odd) = true)
    (a_law_other_number : PySem.W.nsIn K mainGlobals "_law_other_number" = some (some (.ref f_law_other_number)))
    (l_law_other_number : K.lookup f_law_other_number = some ⟨oc_law_other_number, od_law_other_number, .func (PySem.W.fnOf "_law_other_number" "_law_other_number" (defArgs s__law_other_number) (defBody s__law_other_number) (defScope s__law_other_number) .none kV_law_other_number dc_law_other_number pm_law_other_number an_law_other_number cd_law_other_number ct_law_other_number), sl_law_other_number⟩)
    (c_law_other_number : PySem.W.codeIn K cd_law_other_number "_law_other_number" = true)
    (k_law_other_number : PySem.W.keepIn K (.ref f_law_other_number) = true)
    (a_law_other_string : PySem.W.nsIn K mainGlobals "_law_other_string" = some (some (.ref f_law_other_string)))
    (l_law_other_string : K.lookup f_law_other_string = some ⟨oc_law_other_string, od_law_other_string, .func (PySem.W.fnOf "_law_other_string" "_law_other_string" (defArgs s__law_other_string) (defBody s__law_other_string) (defScope s__law_other_string) .none kV_law_other_string dc_law_other_string pm_law_other_string an_law_other_string cd_law_other_string ct_law_other_string), sl_law_other_string⟩)
    (c_law_other_string : PySem.W.codeIn K cd_law_other_string "_law_other_string" = true)
    (k_law_other_string : PySem.W.keepIn K (.ref f_law_other_string) = true)
    (a_law_other_row : PySem.W.nsIn K mainGlobals "_law_other_row" = some (some (.ref f_law_other_row)))
    (l_law_other_row : K.lookup f_law_other_row = some ⟨oc_law_other_row, od_law_other_row, .func (PySem.W.fnOf "_law_other_row" "_law_other_row" (defArgs s__law_other_row) (defBody s__law_other_row) (defScope s__law_other_row) .none kV_law_other_row dc_law_other_row pm_law_other_row an_law_other_row cd_law_other_row ct_law_other_row), sl_law_other_row⟩)
    (c_law_other_row : PySem.W.codeIn K cd_law_other_row "_law_other_row" = true)
    (k_law_other_row : PySem.W.keepIn K (.ref f_law_other_row) = true)
    (a_law_spoiled : PySem.W.nsIn K mainGlobals "_law_spoiled" = some (some (.ref f_law_spoiled)))
    (l_law_spoiled : K.lookup f_law_spoiled = some ⟨oc_law_spoiled, od_law_spoiled, .func (PySem.W.fnOf "_law_spoiled" "_law_spoiled" (defArgs s__law_spoiled) (defBody s__law_spoiled) (defScope s__law_spoiled) .none kV_law_spoiled dc_law_spoiled pm_law_spoiled an_law_spoiled cd_law_spoiled ct_law_spoiled), sl_law_spoiled⟩)
    (c_law_spoiled : PySem.W.codeIn K cd_law_spoiled "_law_spoiled" = true)
    (k_law_spoiled : PySem.W.keepIn K (.ref f_law_spoiled) = true)
    (a_law_made : PySem.W.nsIn K mainGlobals "_law_made" = some (some (.ref f_law_made)))
    (l_law_made : K.lookup f_law_made = some ⟨oc_law_made, od_law_made, .func (PySem.W.fnOf "_law_made" "_law_made" (defArgs s__law_made) (defBody s__law_made) (defScope s__law_made) .none kV_law_made dc_law_made pm_law_made an_law_made cd_law_made ct_law_made), sl_law_made⟩)
    (c_law_made : PySem.W.codeIn K cd_law_made "_law_made" = true)
    (k_law_made : PySem.W.keepIn K (.ref f_law_made) = true)
    (a_law_tables_due : PySem.W.nsIn K mainGlobals "_law_tables_due" = some (some (.ref f_law_tables_due)))
    (l_law_tables_due : K.lookup f_law_tables_due = some ⟨oc_law_tables_due, od_law_tables_due, .func (PySem.W.fnOf "_law_tables_due" "_law_tables_due" (defArgs s__law_tables_due) (defBody s__law_tables_due) (defScope s__law_tables_due) .none kV_law_tables_due dc_law_tables_due pm_law_tables_due an_law_tables_due cd_law_tables_due ct_law_tables_due), sl_law_tables_due⟩)
    (c_law_tables_due : PySem.W.codeIn K cd_law_tables_due "_law_tables_due" = true)
    (k_law_tables_due : PySem.W.keepIn K (.ref f_law_tables_due) = true)
    (m_Shape : PySem.W.nsIn K mainGlobals "Shape" = some (some (.ref C_Shape)))
    (a_Shape_init : PySem.W.findIn K (.ref C_Shape) "__init__" = some (some (.ref f_Shape_init)))
    (l_Shape_init : K.lookup f_Shape_init = some ⟨oc_Shape_init, od_Shape_init, .func (PySem.W.fnOf "__init__" "Shape.__init__" (defArgs s_Shape_init) (defBody s_Shape_init) (defScope s_Shape_init) .none kV_Shape_init dc_Shape_init pm_Shape_init an_Shape_init cd_Shape_init ct_Shape_init), sl_Shape_init⟩)
    (c_Shape_init : PySem.W.codeIn K cd_Shape_init "Shape.__init__" = true)
    (k_Shape_init : PySem.W.keepIn K (.ref f_Shape_init) = true)
    (i_Shape_init : PySem.W.isFn K (.ref f_Shape_init) = true)
    (pg_Shape : PySem.W.plainGet K C_Shape Str.empty = true)
    (hd_Shape : PySem.W.hasDictIn K C_Shape = true)
    (po_Shape : PySem.W.plainOver K C_Shape = true)
    (sa_Shape : PySem.W.findIn K (.ref C_Shape) "__setattr__" = some (some (.builtin "object.__setattr__")))
    (mk_Shape : PySem.W.makesIn K C_Shape = true)
    (kc_Shape : PySem.W.keepIn K (.ref C_Shape) = true)
    (na_Shape_tables : PySem.W.findIn K (.ref C_Shape) "tables" = some none)
    (ha_Shape : PySem.W.findIn K (.ref C_Shape) "__class__" = some (some (.builtin "object.__class__")))
    (hn_Shape : PySem.W.specialIn K (.builtin "object.__class__") "__get__" = some (some (.builtin "getset_descriptor.__get__")))
    (ht_Shape : PySem.W.takesIn K (.builtin "object.__class__") = some true)
    (hm_Shape : PySem.W.mroIn K C_Shape (.type "object") = some true)
    (ne_Shape : PySem.W.findIn K (.ref C_Shape) "__ne__" = some (some (.builtin "object.__ne__")))
    (ob_Shape : PySem.W.subIn K (.ref C_Shape) (.type "object") = some true)
    (kt_Shape_NoneType : PySem.W.kitOne K (.type "NoneType") (.ref C_Shape) = some false)
    (nf_Shape_NoneType : PySem.W.notFirst K C_Shape (.type "NoneType") = true)
    (kt_Shape_bool : PySem.W.kitOne K (.type "bool") (.ref C_Shape) = some false)
    (nf_Shape_bool : PySem.W.notFirst K C_Shape (.type "bool") = true)
    (kt_Shape_int : PySem.W.kitOne K (.type "int") (.ref C_Shape) = some false)
    (nf_Shape_int : PySem.W.notFirst K C_Shape (.type "int") = true)
    (kt_Shape_str : PySem.W.kitOne K (.type "str") (.ref C_Shape) = some false)
    (nf_Shape_str : PySem.W.notFirst K C_Shape (.type "str") = true)
    (kt_Shape_list : PySem.W.kitOne K (.type "list") (.ref C_Shape) = some false)
    (nf_Shape_list : PySem.W.notFirst K C_Shape (.type "list") = true)
    (kt_Shape_tuple : PySem.W.kitOne K (.type "tuple") (.ref C_Shape) = some false)
    (nf_Shape_tuple : PySem.W.notFirst K C_Shape (.type "tuple") = true)
    (kt_Shape_dict : PySem.W.kitOne K (.type "dict") (.ref C_Shape) = some false)
    (nf_Shape_dict : PySem.W.notFirst K C_Shape (.type "dict") = true)
    (m_BadShape : PySem.W.nsIn K mainGlobals "BadShape" = some (some (.ref C_BadShape)))
    (x_BadShape : K.lookup C_BadShape = some (excClassObj nm_BadShape q_BadShape C_BadShape N_BadShape bs_BadShape [.ref C_MetError, .type "ValueError", .type "Exception", .type "BaseException", .type "object"] true sn_BadShape sub_BadShape ab_BadShape col_BadShape dd_BadShape m0_BadShape m1_BadShape m2_BadShape m3_BadShape m5_BadShape "ValueError.__new__"))
    (s_BadShape : PySem.W.findIn K (.ref C_BadShape) "__setattr__" = some (some (.builtin "object.__setattr__")))
    (ga_BadShape : PySem.W.findIn K (.ref C_BadShape) "__getattribute__" = some (some (.builtin "BaseException.__getattribute__")))
    (gg_BadShape : PySem.W.findIn K (.ref C_BadShape) "__getattr__" = some none)
    (no_BadShape : PySem.W.findIn K (.ref C_BadShape) "at" = some none)
    (a_BadShape_init : PySem.W.findIn K (.ref C_BadShape) "__init__" = some (some (.ref f_BadShape_init)))
    (l_BadShape_init : K.lookup f_BadShape_init = some ⟨oc_BadShape_init, od_BadShape_init, .func (PySem.W.fnOf "__init__" "BadShape.__init__" (defArgs s_BadShape_init) (defBody s_BadShape_init) (defScope s_BadShape_init) .none kV_BadShape_init dc_BadShape_init pm_BadShape_init an_BadShape_init cd_BadShape_init ct_BadShape_init), sl_BadShape_init⟩)
    (c_BadShape_init : PySem.W.codeIn K cd_BadShape_init "BadShape.__init__" = true)
    (k_BadShape_init : PySem.W.keepIn K (.ref f_BadShape_init) = true)
    (t_BadShape_init : PySem.W.typeIn K (.ref f_BadShape_init) = some (.type "function"))
    (e_BadShape : PySem.W.subIn K (.ref C_BadShape) (.type "BaseException") = some true)
    (ty_BadShape : PySem.W.typeIn K (.ref C_BadShape) = some (.type "type"))
    (kk_BadShape : PySem.W.keepIn K (.ref C_BadShape) = true)
    (hd_BadShape : PySem.W.hasDictIn K C_BadShape = true)
    (xm_BadShape : PySem.W.exmOne K (.ref C_BadShape) (.ref C_BadShape) = some true)
    (a_law : PySem.W.nsIn K mainGlobals "law" = some (some (.ref f_law)))
    (l_law : K.lookup f_law = some ⟨oc_law, od_law, .func (PySem.W.fnOf "law" "law" (defArgs s_law) (defBody s_law) (defScope s_law) .none kV_law dc_law pm_law an_law cd_law ct_law), sl_law⟩)
    (c_law : PySem.W.codeIn K cd_law "law" = true)
    (k_law : PySem.W.keepIn K (.ref f_law) = true) :
    ∃ fd : FuncData, (∀ (s : Shared) (v : Value), BindsTo s fd ⟨[v], []⟩ [("_law_script", v)]) ∧ ∀ base : Heap, K.In base → base.Ns mainGlobals mg → FnOk l.prog w K mg base CX0 14 fa fd ["_law_script"] (spLaw K) := by
  have e := hfa.symm.trans (PySem.W.mg_of X G a_law)
  cases e
  have B : Bi mg := ⟨PySem.W.mg_none_of X G z_len, PySem.W.mg_none_of X G z_list, PySem.W.mg_none_of X G z_tuple, PySem.W.mg_none_of X G z_isinstance, PySem.W.mg_none_of X G z_int, PySem.W.mg_none_of X G z_range, PySem.W.mg_none_of X G z_max, PySem.W.mg_none_of X G z_all, PySem.W.mg_none_of X G z_bool, PySem.W.mg_none_of X G z_dict, PySem.W.mg_none_of X G z_str, PySem.W.mg_none_of X G z_enumerate⟩
  have N_LETTERS := PySem.W.mg_of X G n_LETTERS
  have F_is_row := fun_mk (st := s_is_row) l_is_row c_is_row k_is_row
  have b_is_row := F_is_row.binds (ps := ["thing"]) fun _ _ _ _ _ _ us hl => match us, hl with | [_], _ => rfl
  have D_is_row : Dfn K mg "is_row" s_is_row ["thing"] := ⟨_, _, F_is_row, PySem.W.mg_of X G a_is_row, b_is_row⟩
  have F_is_name := fun_mk (st := s_is_name) l_is_name c_is_name k_is_name
  have b_is_name := F_is_name.binds (ps := ["thing"]) fun _ _ _ _ _ _ us hl => match us, hl with | [_], _ => rfl
  have D_is_name : Dfn K mg "is_name" s_is_name ["thing"] := ⟨_, _, F_is_name, PySem.W.mg_of X G a_is_name, b_is_name⟩
  have F_are_names := fun_mk (st := s_are_names) l_are_names c_are_names k_are_names
  have b_are_names := F_are_names.binds (ps := ["thing", "least", "most"]) fun _ _ _ _ _ _ us hl => match us, hl with | [_, _, _], _ => rfl
  have D_are_names : Dfn K mg "are_names" s_are_names ["thing", "least", "most"] := ⟨_, _, F_are_names, PySem.W.mg_of X G a_are_names, b_are_names⟩
  have F_is_table := fun_mk (st := s_is_table) l_is_table c_is_table k_is_table
  have b_is_table := F_is_table.binds (ps := ["thing"]) fun _ _ _ _ _ _ us hl => match us, hl with | [_], _ => rfl
  have D_is_table : Dfn K mg "is_table" s_is_table ["thing"] := ⟨_, _, F_is_table, PySem.W.mg_of X G a_is_table, b_is_table⟩
  have F_law_bag := fun_mk (st := s__law_bag) l_law_bag c_law_bag k_law_bag
  have b_law_bag := F_law_bag.binds (ps := ["_law_script"]) fun _ _ _ _ _ _ us hl => match us, hl with | [_], _ => rfl
  have D_law_bag : Dfn K mg "_law_bag" s__law_bag ["_law_script"] := ⟨_, _, F_law_bag, PySem.W.mg_of X G a_law_bag, b_law_bag⟩
  have F_law_pick := fun_mk (st := s__law_pick) l_law_pick c_law_pick k_law_pick
  have b_law_pick := F_law_pick.binds (ps := ["_law_bag_here", "_law_many"]) fun _ _ _ _ _ _ us hl => match us, hl with | [_, _], _ => rfl
  have D_law_pick : Dfn K mg "_law_pick" s__law_pick ["_law_bag_here", "_law_many"] := ⟨_, _, F_law_pick, PySem.W.mg_of X G a_law_pick, b_law_pick⟩
  have F_law_name := fun_mk (st := s__law_name) l_law_name c_law_name k_law_name
  have b_law_name := F_law_name.binds (ps := ["_law_bag_here", "_law_taken"]) fun _ _ _ _ _ _ us hl => match us, hl with | [_, _], _ => rfl
  have D_law_name : Dfn K mg "_law_name" s__law_name ["_law_bag_here", "_law_taken"] := ⟨_, _, F_law_name, PySem.W.mg_of X G a_law_name, b_law_name⟩
  have F_law_tables := fun_mk (st := s__law_tables) l_law_tables c_law_tables k_law_tables
  have b_law_tables := F_law_tables.binds (ps := ["_law_bag_here"]) fun _ _ _ _ _ _ us hl => match us, hl with | [_], _ => rfl
  have D_law_tables : Dfn K mg "_law_tables" s__law_tables ["_law_bag_here"] := ⟨_, _, F_law_tables, PySem.W.mg_of X G a_law_tables, b_law_tables⟩
  have F_law_integer := fun_mk (st := s__law_integer) l_law_integer c_law_integer k_law_integer
  have b_law_integer := F_law_integer.binds (ps := ["_law_thing"]) fun _ _ _ _ _ _ us hl => match us, hl with | [_], _ => rfl
  have D_law_integer : Dfn K mg "_law_integer" s__law_integer ["_law_thing"] := ⟨_, _, F_law_integer, PySem.W.mg_of X G a_law_integer, b_law_integer⟩
  have F_law_row := fun_mk (st := s__law_row) l_law_row c_law_row k_law_row
  have b_law_row := F_law_row.binds (ps := ["_law_thing"]) fun _ _ _ _ _ _ us hl => match us, hl with | [_], _ => rfl
  have D_law_row : Dfn K mg "_law_row" s__law_row ["_law_thing"] := ⟨_, _, F_law_row, PySem.W.mg_of X G a_law_row, b_law_row⟩
  have F_law_word := fun_mk (st := s__law_word) l_law_word c_law_word k_law_word
  have b_law_word := F_law_word.binds (ps := ["_law_thing"]) fun _ _ _ _ _ _ us hl => match us, hl with | [_], _ => rfl
  have D_law_word : Dfn K mg "_law_word" s__law_word ["_law_thing"] := ⟨_, _, F_law_word, PySem.W.mg_of X G a_law_word, b_law_word⟩
  have F_law_words := fun_mk (st := s__law_words) l_law_words c_law_words k_law_words
  have b_law_words := F_law_words.binds (ps := ["_law_thing", "_law_least", "_law_most"]) fun _ _ _ _ _ _ us hl => match us, hl with | [_, _, _], _ => rfl
  have D_law_words : Dfn K mg "_law_words" s__law_words ["_law_thing", "_law_least", "_law_most"] := ⟨_, _, F_law_words, PySem.W.mg_of X G a_law_words, b_law_words⟩
  have F_law_shape_due := fun_mk (st := s__law_shape_due) l_law_shape_due c_law_shape_due k_law_shape_due
  have b_law_shape_due := F_law_shape_due.binds (ps := ["_law_things"]) fun _ _ _ _ _ _ us hl => match us, hl with | [_], _ => rfl
  have D_law_shape_due : Dfn K mg "_law_shape_due" s__law_shape_due ["_law_things"] := ⟨_, _, F_law_shape_due, PySem.W.mg_of X G a_law_shape_due, b_law_shape_due⟩
  have F_law_copied := fun_mk (st := s__law_copied) l_law_copied c_law_copied k_law_copied
  have b_law_copied := F_law_copied.binds (ps := ["_law_thing"]) fun _ _ _ _ _ _ us hl => match us, hl with | [_], _ => rfl
  have D_law_copied : Dfn K mg "_law_copied" s__law_copied ["_law_thing"] := ⟨_, _, F_law_copied, PySem.W.mg_of X G a_law_copied, b_law_copied⟩
  have F_law_alike := fun_mk (st := s__law_alike) l_law_alike c_law_alike k_law_alike
  have b_law_alike := F_law_alike.binds (ps := ["_law_one", "_law_other"]) fun _ _ _ _ _ _ us hl => match us, hl with | [_, _], _ => rfl
  have D_law_alike : Dfn K mg "_law_alike" s__law_alike ["_law_one", "_law_other"] := ⟨_, _, F_law_alike, PySem.W.mg_of X G a_law_alike, b_law_alike⟩
  have F_law_places := fun_mk (st := s__law_places) l_law_places c_law_places k_law_places
  have b_law_places := F_law_places.binds (ps := ["_law_thing", "_law_path"]) fun _ _ _ _ _ _ us hl => match us, hl with | [_, _], _ => rfl
  have D_law_places : Dfn K mg "_law_places" s__law_places ["_law_thing", "_law_path"] := ⟨_, _, F_law_places, PySem.W.mg_of X G a_law_places, b_law_places⟩
  have F_law_at := fun_mk (st := s__law_at) l_law_at c_law_at k_law_at
  have b_law_at := F_law_at.binds (ps := ["_law_thing", "_law_path"]) fun _ _ _ _ _ _ us hl => match us, hl with | [_, _], _ => rfl
  have D_law_at : Dfn K mg "_law_at" s__law_at ["_law_thing", "_law_path"] := ⟨_, _, F_law_at, PySem.W.mg_of X G a_law_at, b_law_at⟩
  have F_law_with := fun_mk (st := s__law_with) l_law_with c_law_with k_law_with
  have b_law_with := F_law_with.binds (ps := ["_law_thing", "_law_path", "_law_part"]) fun _ _ _ _ _ _ us hl => match us, hl with | [_, _, _], _ => rfl
  have D_law_with : Dfn K mg "_law_with" s__law_with ["_law_thing", "_law_path", "_law_part"] := ⟨_, _, F_law_with, PySem.W.mg_of X G a_law_with, b_law_with⟩
  have F_law_deep := fun_mk (st := s__law_deep) l_law_deep c_law_deep k_law_deep
  have b_law_deep := F_law_deep.binds (ps := ["_law_thing"]) fun _ _ _ _ _ _ us hl => match us, hl with | [_], _ => rfl
  have D_law_deep : Dfn K mg "_law_deep" s__law_deep ["_law_thing"] := ⟨_, _, F_law_deep, PySem.W.mg_of X G a_law_deep, b_law_deep⟩
  have F_law_odd := fun_mk (st := s__law_odd) l_law_odd c_law_odd k_law_odd
  have b_law_odd := F_law_odd.binds (ps := ["_law_bag_here"]) fun _ _ _ _ _ _ us hl => match us, hl with | [_], _ => rfl
  have D_law_odd : Dfn K mg "_law_odd" s__law_odd ["_law_bag_here"] := ⟨_, _, F_law_odd, PySem.W.mg_of X G a_law_odd, b_law_odd⟩
  have F_law_other_number := fun_mk (st := s__law_other_number) l_law_other_number c_law_other_number k_law_other_number
  have b_law_other_number := F_law_other_number.binds (ps := ["_law_bag_here", "_law_number"]) fun _ _ _ _ _ _ us hl => match us, hl with | [_, _], _ => rfl
  have D_law_other_number : Dfn K mg "_law_other_number" s__law_other_number ["_law_bag_here", "_law_number"] := ⟨_, _, F_law_other_number, PySem.W.mg_of X G a_law_other_number, b_law_other_number⟩
  have F_law_other_string := fun_mk (st := s__law_other_string) l_law_other_string c_law_other_string k_law_other_string
  have b_law_other_string := F_law_other_string.binds (ps := ["_law_bag_here", "_law_word_here"]) fun _ _ _ _ _ _ us hl => match us, hl with | [_, _], _ => rfl
  have D_law_other_string : Dfn K mg "_law_other_string" s__law_other_string ["_law_bag_here", "_law_word_here"] := ⟨_, _, F_law_other_string, PySem.W.mg_of X G a_law_other_string, b_law_other_string⟩
  have F_law_other_row := fun_mk (st := s__law_other_row) l_law_other_row c_law_other_row k_law_other_row
  have b_law_other_row := F_law_other_row.binds (ps := ["_law_bag_here", "_law_row_here"]) fun _ _ _ _ _ _ us hl => match us, hl with | [_, _], _ => rfl
  have D_law_other_row : Dfn K mg "_law_other_row" s__law_other_row ["_law_bag_here", "_law_row_here"] := ⟨_, _, F_law_other_row, PySem.W.mg_of X G a_law_other_row, b_law_other_row⟩
  have F_law_spoiled := fun_mk (st := s__law_spoiled) l_law_spoiled c_law_spoiled k_law_spoiled
  have b_law_spoiled := F_law_spoiled.binds (ps := ["_law_bag_here", "_law_thing", "_law_names"]) fun _ _ _ _ _ _ us hl => match us, hl with | [_, _, _], _ => rfl
  have D_law_spoiled : Dfn K mg "_law_spoiled" s__law_spoiled ["_law_bag_here", "_law_thing", "_law_names"] := ⟨_, _, F_law_spoiled, PySem.W.mg_of X G a_law_spoiled, b_law_spoiled⟩
  have F_law_made := fun_mk (st := s__law_made) l_law_made c_law_made k_law_made
  have b_law_made := F_law_made.binds (ps := ["_law_things"]) fun _ _ _ _ _ _ us hl => match us, hl with | [_], _ => rfl
  have D_law_made : Dfn K mg "_law_made" s__law_made ["_law_things"] := ⟨_, _, F_law_made, PySem.W.mg_of X G a_law_made, b_law_made⟩
  have F_law_tables_due := fun_mk (st := s__law_tables_due) l_law_tables_due c_law_tables_due k_law_tables_due
  have b_law_tables_due := F_law_tables_due.binds (ps := ["_law_things"]) fun _ _ _ _ _ _ us hl => match us, hl with | [_], _ => rfl
  have D_law_tables_due : Dfn K mg "_law_tables_due" s__law_tables_due ["_law_things"] := ⟨_, _, F_law_tables_due, PySem.W.mg_of X G a_law_tables_due, b_law_tables_due⟩
  have F_Shape_init := fun_mk (st := s_Shape_init) l_Shape_init c_Shape_init k_Shape_init
  have b_Shape_init := F_Shape_init.binds (ps := ["self", "tables"]) fun _ _ _ _ _ _ us hl => match us, hl with | [_, _], _ => rfl
  have M_Shape_init : Meth K C_Shape "__init__" f_Shape_init := ⟨a_Shape_init, i_Shape_init, k_Shape_init⟩
  have CL_Shape : Cls K C_Shape := ⟨pg_Shape, hd_Shape, po_Shape, sa_Shape⟩
  have XX_Shape : InsX K C_Shape := ⟨CL_Shape, ha_Shape, hn_Shape, ht_Shape, hm_Shape, by simp only [List.mem_cons, List.not_mem_nil, or_false, forall_eq_or_imp, forall_eq]; exact ⟨kt_Shape_NoneType, kt_Shape_bool, kt_Shape_int, kt_Shape_str, kt_Shape_list, kt_Shape_tuple, kt_Shape_dict⟩⟩
  have F_BadShape_init := fun_mk (st := s_BadShape_init) l_BadShape_init c_BadShape_init k_BadShape_init
  have b_BadShape_init := F_BadShape_init.binds (ps := ["self", "at"]) fun _ _ _ _ _ _ us hl => match us, hl with | [_, _], _ => rfl
  have O_BadShape : OexC K C_BadShape := ⟨⟨_, _, _, _, _, _, _, _, _, _, _, _, _, _, _, x_BadShape, (by show PySem.HandSPX.refsVE [.type "ValueError", .type "Exception", .type "BaseException", .type "object"] = true; decide +kernel)⟩, s_BadShape, e_BadShape, ty_BadShape, kk_BadShape⟩
  have ER_BadShape : ∀ base, Err l.prog w K mg base "BadShape" "at" C_BadShape := fun base => ⟨O_BadShape, PySem.W.mg_of X G m_BadShape, ⟨_, _, a_BadShape_init, t_BadShape_init, ok_BadShape_init F_BadShape_init O_BadShape no_BadShape, b_BadShape_init⟩, no_BadShape, ⟨ga_BadShape, gg_BadShape, e_BadShape, hd_BadShape⟩⟩
  have F_law := fun_mk (st := s_law) l_law c_law k_law
  refine ⟨PySem.W.fnOf "law" "law" (defArgs s_law) (defBody s_law) (defScope s_law) .none kV_law dc_law pm_law an_law cd_law ct_law, fun s v => .of_eq rfl, fun base _ _ => ?_⟩
  have T : ShCls K mg C_Shape := ⟨CL_Shape, na_Shape_tables, PySem.W.mg_of X G m_Shape⟩
  have G_is_row : ∀ base, Has l.prog w K mg base CX0 "is_row" ["thing"] 1 spIsRow := fun base => ok_is_row B D_is_row
  have G_is_name : ∀ base, Has l.prog w K mg base CX0 "is_name" ["thing"] 1 spIsName := fun base => ok_is_name B N_LETTERS D_is_name
  have G_are_names : ∀ base, Has l.prog w K mg base CX0 "are_names" ["thing", "least", "most"] 2 spAreNames := fun base => ok_are_names B D_are_names (G_is_row base) (G_is_name base)
  have G_is_table : ∀ base, Has l.prog w K mg base CX0 "is_table" ["thing"] 3 spIsTable := fun base => ok_is_table B D_is_table (G_is_name base) (G_are_names base)
  have GI : FnOk l.prog w K mg base (L2.CX l.prog w) 4 f_Shape_init _ ["self", "tables"] (spShapeI C_Shape C_BadShape) := ok_shape_init B F_Shape_init T ER_BadShape G_is_row G_is_table
  have Zm : mg "min" = none := PySem.W.mg_none_of X G z_min
  have G_pick : Has l.prog w K mg base CX0 "_law_pick" ["_law_bag_here", "_law_many"] 1 spPick := ok_pick B D_law_pick
  have G_name : Has l.prog w K mg base CX0 "_law_name" ["_law_bag_here", "_law_taken"] 2 spName := ok_name B D_law_name G_pick
  have G_row : Has l.prog w K mg base CX0 "_law_row" ["_law_thing"] 1 spIsRow := ok_row B D_law_row
  have G_word : Has l.prog w K mg base CX0 "_law_word" ["_law_thing"] 1 spIsName := ok_word B D_law_word
  have G_sp := ok_spoiled (base := base) B D_law_spoiled 6 (by decide) G_pick (ok_places B D_law_places 6) (ok_at B D_law_at) (ok_deep B D_law_deep 6) (ok_oddW B D_law_odd G_pick) (ok_orow B Zm D_law_other_row G_pick) (ok_ostr B D_law_other_string G_pick) (ok_onum B D_law_other_number G_pick) (ok_integer B D_law_integer) (ok_with B D_law_with 6)
  exact ok_law B F_law (ok_bag B D_law_bag) G_pick (ok_tables B D_law_tables G_pick G_name) G_sp (ok_copied B D_law_copied 12) (ok_due B D_law_shape_due G_row G_word (ok_words B D_law_words G_row G_word)) (ok_made B D_law_made T ⟨mk_Shape, a_Shape_init, i_Shape_init, kc_Shape⟩ GI b_Shape_init (PySem.W.mg_of X G m_BadShape) ⟨ga_BadShape, gg_BadShape, e_BadShape, hd_BadShape⟩ no_BadShape xm_BadShape) (ok_alike B D_law_alike 12) (ok_tdue B D_law_tables_due)
theorem walk {l : PySem.W.OpenLaw} {q : Program} {loose : List Str} {XP : (Str → Option Value) → Heap → Prop} {YP : World → Heap → Prop} {d : DefRec} {K : Params → PySem.W.Frag} (hn : l.most = some 63) (hdf : d.params.defaults = [])
    (hY : ∀ (w : World) (h : Heap), YP w h → (K w.params).In h)
    (F : ∀ (w : World) (mg : Str → Option Value) (fa : Addr) (h : Heap), (K w.params).In h → h.Ns mainGlobals mg → mg d.name = some (.ref fa) →
      ∃ fd : FuncData, (∀ (s : Shared) (u : Value), BindsTo s fd ⟨[u], []⟩ [("_law_script", u)]) ∧ ∀ base : Heap, (K w.params).In base → base.Ns mainGlobals mg → FnOk l.prog w (K w.params) mg base CX0 14 fa fd ["_law_script"] (spLaw (K w.params))) :
    PySem.W.WalkO q loose XP YP l.row.toRowW d [] (fun f vs => PySem.call f vs) :=
  L2.walk_of (n := 63) (k := 14) (x := "_law_script") (CX := fun _ => CX0) (sp := fun w => spLaw (K w.params)) hn (by decide) hdf ⟨rfl, by decide, by decide⟩ hY F (fun _ _ a ns hl _ hS => ⟨a, ns, rfl, hS, fun _ => rfl⟩) fun _ _ _ _ _ z => z
end Fm
open PySem PySem.W PyProof.Rows
set_option maxRecDepth 100000 in
set_option maxHeartbeats 0 in
theorem PySem.Challenge.cw_firstmet_k02_shapes_refused_holds : PySem.Challenge.rw_firstmet_k02_shapes_refused.Holds := by
  w_on; o_law; k_head; (case hw => w_witness2)
  k_fill
  refine Fm.walk (l := PySem.Challenge.rw_firstmet_k02_shapes_refused) rfl rfl (fun w h Y => PySem.W.kIn_of Y) ?F
  case F =>
    intro w mg fa h KX G hmg
    refine' Fm.all_mk KX G hmg ?z_len ?z_list ?z_tuple ?z_isinstance ?z_int ?z_range ?z_max ?z_all ?z_bool ?z_dict ?z_str ?z_enumerate ?z_min ?n_LETTERS ?a_is_row ?l_is_row ?c_is_row ?k_is_row ?a_is_name ?l_is_name ?c_is_name ?k_is_name ?a_are_names ?l_are_names ?c_are_names ?k_are_names ?a_is_table ?l_is_table ?c_is_table ?k_is_table ?a_law_bag ?l_law_bag ?c_law_bag ?k_law_bag ?a_law_pick ?l_law_pick ?c_law_pick ?k_law_pick ?a_law_name ?l_law_name ?c_law_name ?k_law_name ?a_law_tables ?l_law_tables ?c_law_tables ?k_law_tables ?a_law_integer ?l_law_integer ?c_law_integer ?k_law_integer ?a_law_row ?l_law_row ?c_law_row ?k_law_row ?a_law_word ?l_law_word ?c_law_word ?k_law_word ?a_law_words ?l_law_words ?c_law_words ?k_law_words ?a_law_shape_due ?l_law_shape_due ?c_law_shape_due ?k_law_shape_due ?a_law_copied ?l_law_copied ?c_law_copied ?k_law_copied ?a_law_alike ?l_law_alike ?c_law_alike ?k_law_alike ?a_law_places ?l_law_places ?c_law_places ?k_law_places ?a_law_at ?l_law_at ?c_law_at ?k_law_at ?a_law_with ?l_law_with ?c_law_with ?k_law_with ?a_law_deep ?l_law_deep ?c_law_deep ?k_law_deep ?a_law_odd ?l_law_odd ?c_law_odd ?k_law_odd ?a_law_other_number ?l_law_other_number ?c_law_other_number ?k_law_other_number ?a_law_other_string ?l_law_other_string ?c_law_other_string ?k_law_other_string ?a_law_other_row ?l_law_other_row ?c_law_other_row ?k_law_other_row ?a_law_spoiled ?l_law_spoiled ?c_law_spoiled ?k_law_spoiled ?a_law_made ?l_law_made ?c_law_made ?k_law_made ?a_law_tables_due ?l_law_tables_due ?c_law_tables_due ?k_law_tables_due ?m_Shape ?a_Shape_init ?l_Shape_init ?c_Shape_init ?k_Shape_init ?i_Shape_init ?pg_Shape ?hd_Shape ?po_Shape ?sa_Shape ?mk_Shape ?kc_Shape ?na_Shape_tables ?ha_Shape ?hn_Shape ?ht_Shape ?hm_Shape ?ne_Shape ?ob_Shape ?kt_Shape_NoneType ?nf_Shape_NoneType ?kt_Shape_bool ?nf_Shape_bool ?kt_Shape_int ?nf_Shape_int ?kt_Shape_str ?nf_Shape_str ?kt_Shape_list ?nf_Shape_list ?kt_Shape_tuple ?nf_Shape_tuple ?kt_Shape_dict ?nf_Shape_dict ?m_BadShape ?x_BadShape ?s_BadShape ?ga_BadShape ?gg_BadShape ?no_BadShape ?a_BadShape_init ?l_BadShape_init ?c_BadShape_init ?k_BadShape_init ?t_BadShape_init ?e_BadShape ?ty_BadShape ?kk_BadShape ?hd_BadShape ?xm_BadShape ?a_law ?l_law ?c_law ?k_law
    (case z_len => k_is)
    (case z_list => k_is)
    (case z_tuple => k_is)
    (case z_isinstance => k_is)
    (case z_int => k_is)
    (case z_range => k_is)
    (case z_max => k_is)
    (case z_all => k_is)
    (case z_bool => k_is)
    (case z_dict => k_is)
    (case z_str => k_is)
    (case z_enumerate => k_is)
    (case z_min => k_is)
    (case n_LETTERS => k_is)
    (case a_is_row => k_is)
    (case l_is_row => k_is)
    (case c_is_row => k_is)
    (case k_is_row => k_is)
    (case a_is_name => k_is)
    (case l_is_name => k_is)
    (case c_is_name => k_is)
    (case k_is_name => k_is)
    (case a_are_names => k_is)
    (case l_are_names => k_is)
    (case c_are_names => k_is)
    (case k_are_names => k_is)
    (case a_is_table => k_is)
    (case l_is_table => k_is)
    (case c_is_table => k_is)
    (case k_is_table => k_is)
    (case a_law_bag => k_is)
    (case l_law_bag => k_is)
    (case c_law_bag => k_is)
    (case k_law_bag => k_is)
    (case a_law_pick => k_is)
    (case l_law_pick => k_is)
    (case c_law_pick => k_is)
    (case k_law_pick => k_is)
    (case a_law_name => k_is)
    (case l_law_name => k_is)
    (case c_law_name => k_is)
    (case k_law_name => k_is)
    (case a_law_tables => k_is)
    (case l_law_tables => k_is)
    (case c_law_tables => k_is)
    (case k_law_tables => k_is)
    (case a_law_integer => k_is)
    (case l_law_integer => k_is)
    (case c_law_integer => k_is)
    (case k_law_integer => k_is)
    (case a_law_row => k_is)
    (case l_law_row => k_is)
    (case c_law_row => k_is)
    (case k_law_row => k_is)
    (case a_law_word => k_is)
    (case l_law_word => k_is)
    (case c_law_word => k_is)
    (case k_law_word => k_is)
    (case a_law_words => k_is)
    (case l_law_words => k_is)
    (case c_law_words => k_is)
    (case k_law_words => k_is)
    (case a_law_shape_due => k_is)
    (case l_law_shape_due => k_is)
    (case c_law_shape_due => k_is)
    (case k_law_shape_due => k_is)
    (case a_law_copied => k_is)
    (case l_law_copied => k_is)
    (case c_law_copied => k_is)
    (case k_law_copied => k_is)
    (case a_law_alike => k_is)
    (case l_law_alike => k_is)
    (case c_law_alike => k_is)
    (case k_law_alike => k_is)
    (case a_law_places => k_is)
    (case l_law_places => k_is)
    (case c_law_places => k_is)
    (case k_law_places => k_is)
    (case a_law_at => k_is)
    (case l_law_at => k_is)
    (case c_law_at => k_is)
    (case k_law_at => k_is)
    (case a_law_with => k_is)
    (case l_law_with => k_is)
    (case c_law_with => k_is)
    (case k_law_with => k_is)
    (case a_law_deep => k_is)
    (case l_law_deep => k_is)
    (case c_law_deep => k_is)
    (case k_law_deep => k_is)
    (case a_law_odd => k_is)
    (case l_law_odd => k_is)
    (case c_law_odd => k_is)
    (case k_law_odd => k_is)
    (case a_law_other_number => k_is)
    (case l_law_other_number => k_is)
    (case c_law_other_number => k_is)
    (case k_law_other_number => k_is)
    (case a_law_other_string => k_is)
    (case l_law_other_string => k_is)
    (case c_law_other_string => k_is)
    (case k_law_other_string => k_is)
    (case a_law_other_row => k_is)
    (case l_law_other_row => k_is)
    (case c_law_other_row => k_is)
    (case k_law_other_row => k_is)
    (case a_law_spoiled => k_is)
    (case l_law_spoiled => k_is)
    (case c_law_spoiled => k_is)
    (case k_law_spoiled => k_is)
    (case a_law_made => k_is)
    (case l_law_made => k_is)
    (case c_law_made => k_is)
    (case k_law_made => k_is)
    (case a_law_tables_due => k_is)
    (case l_law_tables_due => k_is)
    (case c_law_tables_due => k_is)
    (case k_law_tables_due => k_is)
    (case m_Shape => k_is)
    (case a_Shape_init => k_is)
    (case l_Shape_init => k_is)
    (case c_Shape_init => k_is)
    (case k_Shape_init => k_is)
    (case i_Shape_init => k_is)
    (case pg_Shape => k_is)
    (case hd_Shape => k_is)
    (case po_Shape => k_is)
    (case sa_Shape => k_is)
    (case mk_Shape => k_is)
    (case kc_Shape => k_is)
    (case na_Shape_tables => k_is)
    (case ha_Shape => k_is)
    (case hn_Shape => k_is)
    (case ht_Shape => k_is)
    (case hm_Shape => k_is)
    (case ne_Shape => k_is)
    (case ob_Shape => k_is)
    (case kt_Shape_NoneType => (first | kit_is | rfl | kernel_rfl))
    (case nf_Shape_NoneType => k_is)
    (case kt_Shape_bool => (first | kit_is | rfl | kernel_rfl))
    (case nf_Shape_bool => k_is)
    (case kt_Shape_int => (first | kit_is | rfl | kernel_rfl))
    (case nf_Shape_int => k_is)
    (case kt_Shape_str => (first | kit_is | rfl | kernel_rfl))
    (case nf_Shape_str => k_is)
    (case kt_Shape_list => (first | kit_is | rfl | kernel_rfl))
    (case nf_Shape_list => k_is)
    (case kt_Shape_tuple => (first | kit_is | rfl | kernel_rfl))
    (case nf_Shape_tuple => k_is)
    (case kt_Shape_dict => (first | kit_is | rfl | kernel_rfl))
    (case nf_Shape_dict => k_is)
    (case m_BadShape => k_is)
    (case x_BadShape => k_is)
    (case s_BadShape => k_is)
    (case ga_BadShape => k_is)
    (case gg_BadShape => k_is)
    (case no_BadShape => k_is)
    (case a_BadShape_init => k_is)
    (case l_BadShape_init => k_is)
    (case c_BadShape_init => k_is)
    (case k_BadShape_init => k_is)
    (case t_BadShape_init => k_is)
    (case e_BadShape => k_is)
    (case ty_BadShape => k_is)
    (case kk_BadShape => k_is)
    (case hd_BadShape => k_is)
    (case xm_BadShape => (first | rfl | kernel_rfl))
    (case a_law => k_is)
    (case l_law => k_is)
    (case c_law => k_is)
    (case k_law => k_is)
