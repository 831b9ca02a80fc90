import PyProof.Rows.All
import Wide.All
import OpenK.AllK
import Wide.FinOn
import HandS.ForMost
import HandS.ForExc
import HandS.Codes
import HandS.IsInst
import HandS.Flow
import HandS.Walk
import HandS.Conv
import HandS.EndBits
import KE.GoesEnum
import HandS.ExcInit
import HandS.ExcField
import HandS.TupAny
import HandS.More
import HandS.WordsDict
import HandS.Sort
import KE.SortData
import HandS.SetKeys
import HandS.Zip
import HandS.Strs
import HandS.ExcOwn
import KE.RegKIsAll
import PySem.Challenge.RW_firstmet_k30_pairing
set_option Elab.async false
set_option linter.all false
set_option maxRecDepth 100000
set_option maxHeartbeats 8000000
/-! Firstmet: short words over the hand layer: a def by its name, heaps that keep what stood, data. -/
namespace Fm
open PySem PySem.Spec PyProof.Rows L2
/-! ### a def of the top, by its name -/
def Dfn (K : PySem.W.Frag) (mg : Str → Option Value) (x : Str) (st : Stmt) (ps : List Str) : Prop :=
  ∃ f fd, Fun K x x st f fd ∧ mg x = some (.ref f) ∧ Binds K fd ps []
def Has (P : Program) (w : World) (K : PySem.W.Frag) (mg : Str → Option Value) (base : Heap) (CX : CXT) (x : Str) (ps : List Str) (k : Nat) (sp : Sp) : Prop :=
  ∃ f fd, FnOk P w K mg base CX k f fd ps sp ∧ mg x = some (.ref f) ∧ PySem.W.keepIn K (.ref f) = true ∧ Binds K fd ps []
section
variable {P : Program} {w : World} {K : PySem.W.Frag} {mg : Str → Option Value} {base : Heap}
theorem Dfn.has {x : Str} {st : Stmt} {N ps : List Str} {k : Nat} {sp : Sp} (D : Dfn K mg x st ps) (S : FnScope N ps (defScope st)) (len : ∀ vs H Q E, sp vs H Q E → vs.length = ps.length)
    (body : ∀ (f : Addr) (cdv : Value) (A : Around) (outer : List Env) (s : Shared) (H : Hp) (vs : List V) (Q : VK) (E : XK), Room k (A.deeper (envOfC x (defScope st) s.heap.objs.size f cdv)) → sp vs H Q E →
      ∃ t, PSs (cxOf CX0 P w K mg base N x (defScope st) f cdv A outer s H E).nox (defBody st) t ∧ t { nx := fun _ H' => Q .non H', rt := Q } (start N vs) H) :
    Has P w K mg base CX0 x ps (k + 1) sp := by
  obtain ⟨f, fd, F, g, b⟩ := D
  exact ⟨f, fd, F.ok S len (fun cdv A outer s H vs Q E => body f cdv A outer s H vs Q E), g, F.kp, b⟩
theorem Dfn.hasX {x : Str} {st : Stmt} {N ps : List Str} {k : Nat} {sp : Sp} (D : Dfn K mg x st ps) (S : FnScope N ps (defScope st)) (len : ∀ vs H Q E, sp vs H Q E → vs.length = ps.length)
    (body : ∀ (f : Addr) (cdv : Value) (A : Around) (outer : List Env) (s : Shared) (H : Hp) (vs : List V) (Q : VK) (E : XK), Room k (A.deeper (envOfC x (defScope st) s.heap.objs.size f cdv)) → sp vs H Q E →
      ∃ t, PSs (cxOf (L2.CX P w) P w K mg base N x (defScope st) f cdv A outer s H E) (defBody st) t ∧ t { nx := fun _ H' => Q .non H', rt := Q } (start N vs) H) :
    Has P w K mg base (L2.CX P w) x ps (k + 1) sp := by
  obtain ⟨f, fd, F, g, b⟩ := D
  exact ⟨f, fd, F.okX S len (fun cdv A outer s H vs Q E => body f cdv A outer s H vs Q E), g, F.kp, b⟩
theorem Has.mono {CX : CXT} {x : Str} {ps : List Str} {j k : Nat} {sp : Sp} (h : Has P w K mg base CX x ps j sp) (hj : j ≤ k) : Has P w K mg base CX x ps k sp := by
  obtain ⟨f, fd, F, r⟩ := h
  exact ⟨f, fd, F.mono hj, r⟩
theorem Has.imp {CX : CXT} {x : Str} {ps : List Str} {k : Nat} {sp sp' : Sp} (h : Has P w K mg base CX x ps k sp) (i : ∀ vs H Q E, sp' vs H Q E → sp vs H Q E) : Has P w K mg base CX x ps k sp' := by
  obtain ⟨f, fd, F, r⟩ := h
  exact ⟨f, fd, F.imp i, r⟩
end
/-- f(e, ..), f a def that raises nothing -/
theorem pe_has {X : Cx} {k : Nat} {x : Str} {ps : List Str} {sp : Sp} {e : Expr} {es : List Expr} {t : TA} {p pos : Pos} (h : Has X.prog X.w X.K X.mg X.base CX0 x ps k sp) (hr : Room k X.A) (ha : PA X (e :: es) t) (hg : Gl X x := by rfl)
    (hdb : (x == ("__debug__" : Str)) = false := by decide) (he : starEach (e :: es) X.env = (false, eval e X.env) :: starEach es X.env := by rfl) (hpl : (backTo pos (starEach es X.env)).any (·.1) = false := by rfl) :
    PE X (.Call (.Name x p) (e :: es) [] pos) (tCall sp [] E0 t) := by
  obtain ⟨f, fd, F, g, kp, b⟩ := h
  exact pe_call F hr hg g kp b .nil pass0 ha hdb he hpl
/-! ### heaps -/
/-- all that stood stands, but for what is at ms; tuples stand in any case -/
structure Kp (ms : List Addr) (H H' : Hp) : Prop where
  at_ : ∀ a o, H a = some o → a ∉ ms → H' a = some o
  tp : ∀ a xs, H a = some (.tup xs) → H' a = some (.tup xs)
theorem Kp.refl {ms : List Addr} (H : Hp) : Kp ms H H := ⟨fun _ _ h _ => h, fun _ _ h => h⟩
theorem Kp.trans {ms : List Addr} {H H1 H2 : Hp} (a : Kp ms H H1) (b : Kp ms H1 H2) : Kp ms H H2 := ⟨fun c o h n => b.at_ c o (a.at_ c o h n) n, fun c xs h => b.tp c xs (a.tp c xs h)⟩
theorem Kp.mono {ms ms' : List Addr} {H H' : Hp} (a : Kp ms H H') (h : ∀ x ∈ ms, x ∈ ms') : Kp ms' H H' := ⟨fun c o e n => a.at_ c o e fun z => n (h c z), a.tp⟩
theorem Kp.zero {ms : List Addr} {H H' : Hp} (a : Kp [] H H') : Kp ms H H' := a.mono fun _ h => nomatch h
theorem Kp.same {H H' : Hp} (a : Kp [] H H') : Same H H' := fun b o e => a.at_ b o e (fun z => nomatch z)
theorem Kp.new {ms : List Addr} {H : Hp} {p : Addr} {o : HO} (h : H p = none) : Kp ms H (upd H p o) :=
  ⟨fun _ _ e _ => (upd_ne (ne_of_none e h)).trans e, fun _ _ e => (upd_ne (ne_of_none e h)).trans e⟩
theorem Kp.snoc {ms : List Addr} {H H' : Hp} {p : Addr} {o : HO} (a : Kp ms H H') (h : H' p = none) : Kp ms H (upd H' p o) := a.trans (Kp.new h)
theorem Kp.late {ms : List Addr} {H H' : Hp} {p : Addr} {o : HO} (a : Kp ms H H') (h : H p = none) : Kp ms H (L2.upd H' p o) :=
  ⟨fun b u e n => (upd_ne (ne_of_none e h)).trans (a.at_ b u e n), fun b xs e => (upd_ne (ne_of_none e h)).trans (a.tp b xs e)⟩
theorem Kp.set {ms : List Addr} {H : Hp} {p : Addr} {o o' : HO} (e : H p = some o) (hn : ∀ xs, o ≠ .tup xs) (hm : p ∈ ms) : Kp ms H (upd H p o') :=
  ⟨fun b u h n => (upd_ne (fun z => n (by rw [z]; exact hm))).trans h, fun b xs h => (upd_ne (fun z => by rw [z, e] at h; exact hn xs (Option.some.inj h))).trans h⟩
theorem Kp.updL {ms : List Addr} {H : Hp} {p : Addr} {ys : List V} {o' : HO} (e : H p = some (.lst ys)) (hm : p ∈ ms) : Kp ms H (L2.upd H p o') := Kp.set e (fun _ z => by cases z) hm
theorem Kp.free {ms : List Addr} {H H' : Hp} {p : Addr} (a : Kp ms H H') (h : H' p = Option.none) (hm : ∀ x ∈ ms, ∃ o, H' x = some o) : H p = Option.none := by
  cases e : H p with
  | none => rfl
  | some o =>
    by_cases z : p ∈ ms
    · obtain ⟨o', h'⟩ := hm p z
      rw [h'] at h
      cases h
    · rw [a.at_ p o e z] at h
      cases h
theorem upd_upd {H : Hp} {a : Addr} {o o' : HO} : upd (upd H a o) a o' = upd H a o' := by
  funext b
  by_cases z : b = a
  · rw [z, upd_same, upd_same]
  · rw [upd_ne z, upd_ne z, upd_ne z]
theorem upd_comm {H : Hp} {a b : Addr} {o u : HO} (n : a ≠ b) : upd (upd H a o) b u = upd (upd H b u) a o := by
  funext c
  by_cases z : c = a
  · rw [z, upd_ne n, upd_same, upd_same]
  · by_cases y : c = b
    · rw [y, upd_same, upd_ne (Ne.symm n), upd_same]
    · rw [upd_ne y, upd_ne z, upd_ne z, upd_ne y]
/-! ### names of the built-ins -/
structure Bi (mg : Str → Option Value) : Prop where
  len : mg "len" = none
  list : mg "list" = none
  tuple : mg "tuple" = none
  isinstance : mg "isinstance" = none
  int : mg "int" = none
  range : mg "range" = none
  max : mg "max" = none
  all : mg "all" = none
  bool : mg "bool" = none
  dict : mg "dict" = none
  str : mg "str" = none
  enumerate : mg "enumerate" = none
/-! ### the bag of draws -/
structure Bag (H : Hp) (b c : Addr) : Prop where
  bg : ∃ i z m n k : Int, H b = some (.lst [.ref c, .int i, .int z, .int m, .int n, .int k]) ∧ 0 ≤ i ∧ 0 ≤ z
  cl : ∃ cs : List Int, H c = some (.lst (cs.map V.int)) ∧ cs.length ≤ 63
theorem Bag.ne {H : Hp} {b c : Addr} (B : Bag H b c) : c ≠ b := fun z => by
  obtain ⟨⟨i, z', m, n, k, h, _⟩, ⟨cs, h2, _⟩⟩ := B
  rw [z, h] at h2
  cases cs with
  | nil => cases h2
  | cons x r => cases h2
theorem Bag.keep {H H' : Hp} {b c : Addr} {ms : List Addr} (B : Bag H b c) (k : Kp ms H H') (hb : b ∉ ms) (hc : c ∉ ms) : Bag H' b c := by
  obtain ⟨⟨i, z', m, n, k', h, hi⟩, ⟨cs, h2, hl⟩⟩ := B
  exact ⟨⟨i, z', m, n, k', k.at_ _ _ h hb, hi⟩, ⟨cs, k.at_ _ _ h2 hc, hl⟩⟩
theorem Bag.keep0 {H H' : Hp} {b c : Addr} (B : Bag H b c) (k : Kp [] H H') : Bag H' b c := B.keep k (fun z => nomatch z) (fun z => nomatch z)
theorem Bag.someB {H : Hp} {b c : Addr} (B : Bag H b c) : ∃ o, H b = some o := let ⟨_, _, _, _, _, h, _⟩ := B.bg; ⟨_, h⟩
theorem Bag.someC {H : Hp} {b c : Addr} (B : Bag H b c) : ∃ o, H c = some o := let ⟨_, h, _⟩ := B.cl; ⟨_, h⟩
theorem Kp.freeB {H H' : Hp} {b c p : Addr} (a : Kp [b] H H') (B : Bag H' b c) (h : H' p = Option.none) : H p = Option.none :=
  a.free h fun x hx => by
    have e : x = b := by simpa using hx
    rw [e]; exact B.someB
end Fm

namespace Fm
open PySem PySem.Spec PyProof.Rows L2
def topS (i : Nat) : Stmt := PySem.Challenge.pw_firstmet_k30_pairing.main.body.getD i (.Pass ⟨0, 0, 0, 0⟩)
abbrev s_BadPattern_init : Stmt := inClass (topS 2) 0
abbrev N_BadPattern_init : List Str := ["self", "at"]
theorem sc_BadPattern_init : FnScope ["self", "at"] ["self", "at"] (defScope s_BadPattern_init) := ⟨rfl, rfl, rfl, by decide +kernel, rfl, by decide +kernel, by decide +kernel⟩
abbrev s_is_row : Stmt := topS 6
abbrev N_is_row : List Str := ["thing"]
theorem sc_is_row : FnScope ["thing"] ["thing"] (defScope s_is_row) := ⟨rfl, rfl, rfl, by decide +kernel, rfl, by decide +kernel, by decide +kernel⟩
abbrev s_is_integer : Stmt := topS 7
abbrev N_is_integer : List Str := ["thing"]
theorem sc_is_integer : FnScope ["thing"] ["thing"] (defScope s_is_integer) := ⟨rfl, rfl, rfl, by decide +kernel, rfl, by decide +kernel, by decide +kernel⟩
abbrev s_is_value : Stmt := topS 8
abbrev N_is_value : List Str := ["thing"]
theorem sc_is_value : FnScope ["thing"] ["thing"] (defScope s_is_value) := ⟨rfl, rfl, rfl, by decide +kernel, rfl, by decide +kernel, by decide +kernel⟩
abbrev s_is_name : Stmt := topS 9
abbrev N_is_name : List Str := ["thing", "letter"]
theorem sc_is_name : FnScope ["thing", "letter"] ["thing"] (defScope s_is_name) := ⟨rfl, rfl, rfl, by decide +kernel, rfl, by decide +kernel, by decide +kernel⟩
abbrev s_checked_rows : Stmt := topS 13
abbrev N_checked_rows : List Str := ["rows", "checked", "row", "table", "symbols", "symbol"]
theorem sc_checked_rows : FnScope ["rows", "checked", "row", "table", "symbols", "symbol"] ["rows"] (defScope s_checked_rows) := ⟨rfl, rfl, rfl, by decide +kernel, rfl, by decide +kernel, by decide +kernel⟩
abbrev s_names_in_order : Stmt := topS 14
abbrev N_names_in_order : List Str := ["rows", "names", "table", "symbols", "symbol"]
theorem sc_names_in_order : FnScope ["rows", "names", "table", "symbols", "symbol"] ["rows"] (defScope s_names_in_order) := ⟨rfl, rfl, rfl, by decide +kernel, rfl, by decide +kernel, by decide +kernel⟩
abbrev s_renamed : Stmt := topS 15
abbrev N_renamed : List Str := ["symbols", "names", "symbol"]
theorem sc_renamed : FnScope ["symbols", "names", "symbol"] ["symbols", "names"] (defScope s_renamed) := ⟨rfl, rfl, rfl, by decide +kernel, rfl, by decide +kernel, by decide +kernel⟩
abbrev s_renamed_rows : Stmt := topS 16
abbrev N_renamed_rows : List Str := ["rows", "names", "table", "symbols"]
theorem sc_renamed_rows : FnScope ["rows", "names", "table", "symbols"] ["rows", "names"] (defScope s_renamed_rows) := ⟨rfl, rfl, rfl, by decide +kernel, rfl, by decide +kernel, by decide +kernel⟩
abbrev s_is_group : Stmt := topS 17
abbrev N_is_group : List Str := ["group", "names", "symbol"]
theorem sc_is_group : FnScope ["group", "names", "symbol"] ["group", "names"] (defScope s_is_group) := ⟨rfl, rfl, rfl, by decide +kernel, rfl, by decide +kernel, by decide +kernel⟩
abbrev s_is_powers : Stmt := topS 18
abbrev N_is_powers : List Str := ["powers", "names", "name"]
theorem sc_is_powers : FnScope ["powers", "names", "name"] ["powers", "names"] (defScope s_is_powers) := ⟨rfl, rfl, rfl, by decide +kernel, rfl, by decide +kernel, by decide +kernel⟩
abbrev s_Pattern_init : Stmt := inClass (topS 19) 0
abbrev N_Pattern_init : List Str := ["self", "rows", "group", "powers", "checked", "names", "name"]
theorem sc_Pattern_init : FnScope ["self", "rows", "group", "powers", "checked", "names", "name"] ["self", "rows", "group", "powers"] (defScope s_Pattern_init) := ⟨rfl, rfl, rfl, by decide +kernel, rfl, by decide +kernel, by decide +kernel⟩
abbrev s_Pattern_eq : Stmt := inClass (topS 19) 1
abbrev N_Pattern_eq : List Str := ["self", "other"]
theorem sc_Pattern_eq : FnScope ["self", "other"] ["self", "other"] (defScope s_Pattern_eq) := ⟨rfl, rfl, rfl, by decide +kernel, rfl, by decide +kernel, by decide +kernel⟩
abbrev s_bound : Stmt := topS 20
abbrev N_bound : List Str := ["known", "symbols", "targets", "wider", "symbol", "target"]
theorem sc_bound : FnScope ["known", "symbols", "targets", "wider", "symbol", "target"] ["known", "symbols", "targets"] (defScope s_bound) := ⟨rfl, rfl, rfl, by decide +kernel, rfl, by decide +kernel, by decide +kernel⟩
abbrev s_paired : Stmt := topS 21
abbrev N_paired : List Str := ["one", "other", "chosen", "there", "back", "at", "powers", "table", "symbols", "k", "name", "targets", "wider", "wider_back", "found", "power"]
theorem sc_paired : FnScope ["one", "other", "chosen", "there", "back", "at", "powers", "table", "symbols", "k", "name", "targets", "wider", "wider_back", "found", "power"] ["one", "other", "chosen", "there", "back"] (defScope s_paired) := ⟨rfl, rfl, rfl, by decide +kernel, rfl, by decide +kernel, by decide +kernel⟩
abbrev s_pairing : Stmt := topS 22
abbrev N_pairing : List Str := ["one", "other", "there", "back"]
theorem sc_pairing : FnScope ["one", "other", "there", "back"] ["one", "other"] (defScope s_pairing) := ⟨rfl, rfl, rfl, by decide +kernel, rfl, by decide +kernel, by decide +kernel⟩
abbrev s__law_bag : Stmt := topS 24
abbrev N__law_bag : List Str := ["_law_script"]
theorem sc__law_bag : FnScope ["_law_script"] ["_law_script"] (defScope s__law_bag) := ⟨rfl, rfl, rfl, by decide +kernel, rfl, by decide +kernel, by decide +kernel⟩
abbrev s__law_pick : Stmt := topS 25
abbrev N__law_pick : List Str := ["_law_bag_here", "_law_many", "_law_cell", "_law_found", "_law_one"]
theorem sc__law_pick : FnScope ["_law_bag_here", "_law_many", "_law_cell", "_law_found", "_law_one"] ["_law_bag_here", "_law_many"] (defScope s__law_pick) := ⟨rfl, rfl, rfl, by decide +kernel, rfl, by decide +kernel, by decide +kernel⟩
abbrev s__law_name : Stmt := topS 26
abbrev N__law_name : List Str := ["_law_bag_here", "_law_taken", "_law_letters", "_law_word", "_law_stem", "_law_k"]
theorem sc__law_name : FnScope ["_law_bag_here", "_law_taken", "_law_letters", "_law_word", "_law_stem", "_law_k"] ["_law_bag_here", "_law_taken"] (defScope s__law_name) := ⟨rfl, rfl, rfl, by decide +kernel, rfl, by decide +kernel, by decide +kernel⟩
abbrev s__law_value : Stmt := topS 27
abbrev N__law_value : List Str := ["_law_bag_here", "_law_number"]
theorem sc__law_value : FnScope ["_law_bag_here", "_law_number"] ["_law_bag_here"] (defScope s__law_value) := ⟨rfl, rfl, rfl, by decide +kernel, rfl, by decide +kernel, by decide +kernel⟩
abbrev s__law_tables : Stmt := topS 28
abbrev N__law_tables : List Str := ["_law_bag_here", "_law_taken", "_law_tables_here", "_law_k", "_law_name_here", "_law_fields", "_law_j"]
theorem sc__law_tables : FnScope ["_law_bag_here", "_law_taken", "_law_tables_here", "_law_k", "_law_name_here", "_law_fields", "_law_j"] ["_law_bag_here"] (defScope s__law_tables) := ⟨rfl, rfl, rfl, by decide +kernel, rfl, by decide +kernel, by decide +kernel⟩
abbrev s__law_integer : Stmt := topS 29
abbrev N__law_integer : List Str := ["_law_thing"]
theorem sc__law_integer : FnScope ["_law_thing"] ["_law_thing"] (defScope s__law_integer) := ⟨rfl, rfl, rfl, by decide +kernel, rfl, by decide +kernel, by decide +kernel⟩
abbrev s__law_integers : Stmt := topS 30
abbrev N__law_integers : List Str := ["_law_thing", "_law_part"]
theorem sc__law_integers : FnScope ["_law_thing", "_law_part"] ["_law_thing"] (defScope s__law_integers) := ⟨rfl, rfl, rfl, by decide +kernel, rfl, by decide +kernel, by decide +kernel⟩
abbrev s__law_pool : Stmt := topS 31
abbrev N__law_pool : List Str := ["_law_bag_here", "_law_texts", "_law_first", "_law_step", "_law_k"]
theorem sc__law_pool : FnScope ["_law_bag_here", "_law_texts", "_law_first", "_law_step", "_law_k"] ["_law_bag_here"] (defScope s__law_pool) := ⟨rfl, rfl, rfl, by decide +kernel, rfl, by decide +kernel, by decide +kernel⟩
abbrev s__law_pattern : Stmt := topS 32
abbrev N__law_pattern : List Str := ["_law_bag_here", "_law_tables_here", "_law_most", "_law_pool_here", "_law_spread", "_law_rows", "_law_used", "_law_k", "_law_table", "_law_symbols", "_law_field", "_law_group", "_law_powers"]
theorem sc__law_pattern : FnScope ["_law_bag_here", "_law_tables_here", "_law_most", "_law_pool_here", "_law_spread", "_law_rows", "_law_used", "_law_k", "_law_table", "_law_symbols", "_law_field", "_law_group", "_law_powers"] ["_law_bag_here", "_law_tables_here", "_law_most"] (defScope s__law_pattern) := ⟨rfl, rfl, rfl, by decide +kernel, rfl, by decide +kernel, by decide +kernel⟩
abbrev s__law_due : Stmt := topS 33
abbrev N__law_due : List Str := ["_law_rows", "_law_group", "_law_powers", "_law_names", "_law_made", "_law_table", "_law_symbols", "_law_told", "_law_symbol", "_law_name_here"]
theorem sc__law_due : FnScope ["_law_rows", "_law_group", "_law_powers", "_law_names", "_law_made", "_law_table", "_law_symbols", "_law_told", "_law_symbol", "_law_name_here"] ["_law_rows", "_law_group", "_law_powers"] (defScope s__law_due) := ⟨rfl, rfl, rfl, by decide +kernel, rfl, by decide +kernel, by decide +kernel⟩
abbrev s__law_turned : Stmt := topS 34
abbrev N__law_turned : List Str := ["_law_rows", "_law_group", "_law_powers", "_law_pool_here", "_law_names", "_law_table", "_law_symbols", "_law_symbol", "_law_turned_here", "_law_told", "_law_name_here"]
theorem sc__law_turned : FnScope ["_law_rows", "_law_group", "_law_powers", "_law_pool_here", "_law_names", "_law_table", "_law_symbols", "_law_symbol", "_law_turned_here", "_law_told", "_law_name_here"] ["_law_rows", "_law_group", "_law_powers", "_law_pool_here"] (defScope s__law_turned) := ⟨rfl, rfl, rfl, by decide +kernel, rfl, by decide +kernel, by decide +kernel⟩
abbrev s__law_shuffled : Stmt := topS 35
abbrev N__law_shuffled : List Str := ["_law_bag_here", "_law_things", "_law_left", "_law_found", "_law_k"]
theorem sc__law_shuffled : FnScope ["_law_bag_here", "_law_things", "_law_left", "_law_found", "_law_k"] ["_law_bag_here", "_law_things"] (defScope s__law_shuffled) := ⟨rfl, rfl, rfl, by decide +kernel, rfl, by decide +kernel, by decide +kernel⟩
abbrev s__law_sent : Stmt := topS 36
abbrev N__law_sent : List Str := ["_law_known", "_law_symbols", "_law_targets", "_law_wider", "_law_k"]
theorem sc__law_sent : FnScope ["_law_known", "_law_symbols", "_law_targets", "_law_wider", "_law_k"] ["_law_known", "_law_symbols", "_law_targets"] (defScope s__law_sent) := ⟨rfl, rfl, rfl, by decide +kernel, rfl, by decide +kernel, by decide +kernel⟩
abbrev s__law_map_over : Stmt := topS 37
abbrev N__law_map_over : List Str := ["_law_rows", "_law_group", "_law_other_rows", "_law_other_group", "_law_indexes", "_law_known", "_law_k"]
theorem sc__law_map_over : FnScope ["_law_rows", "_law_group", "_law_other_rows", "_law_other_group", "_law_indexes", "_law_known", "_law_k"] ["_law_rows", "_law_group", "_law_other_rows", "_law_other_group", "_law_indexes"] (defScope s__law_map_over) := ⟨rfl, rfl, rfl, by decide +kernel, rfl, by decide +kernel, by decide +kernel⟩
abbrev s__law_judged : Stmt := topS 38
abbrev N__law_judged : List Str := ["_law_rows", "_law_group", "_law_other_rows", "_law_other_group", "_law_thing", "_law_index"]
theorem sc__law_judged : FnScope ["_law_rows", "_law_group", "_law_other_rows", "_law_other_group", "_law_thing", "_law_index"] ["_law_rows", "_law_group", "_law_other_rows", "_law_other_group", "_law_thing"] (defScope s__law_judged) := ⟨rfl, rfl, rfl, by decide +kernel, rfl, by decide +kernel, by decide +kernel⟩
abbrev s__law_is_pairing : Stmt := topS 39
abbrev N__law_is_pairing : List Str := ["_law_one", "_law_other", "_law_thing", "_law_back", "_law_k", "_law_known", "_law_part"]
theorem sc__law_is_pairing : FnScope ["_law_one", "_law_other", "_law_thing", "_law_back", "_law_k", "_law_known", "_law_part"] ["_law_one", "_law_other", "_law_thing"] (defScope s__law_is_pairing) := ⟨rfl, rfl, rfl, by decide +kernel, rfl, by decide +kernel, by decide +kernel⟩
abbrev s__law_same_names : Stmt := topS 40
abbrev N__law_same_names : List Str := ["_law_one", "_law_other", "_law_begun", "_law_k", "_law_longer", "_law_chosen", "_law_at"]
theorem sc__law_same_names : FnScope ["_law_one", "_law_other", "_law_begun", "_law_k", "_law_longer", "_law_chosen", "_law_at"] ["_law_one", "_law_other"] (defScope s__law_same_names) := ⟨rfl, rfl, rfl, by decide +kernel, rfl, by decide +kernel, by decide +kernel⟩
abbrev s__law_halves : Stmt := topS 41
abbrev N__law_halves : List Str := ["_law_one", "_law_other", "_law_chosen", "_law_there", "_law_known", "_law_k"]
theorem sc__law_halves : FnScope ["_law_one", "_law_other", "_law_chosen", "_law_there", "_law_known", "_law_k"] ["_law_one", "_law_other", "_law_chosen"] (defScope s__law_halves) := ⟨rfl, rfl, rfl, by decide +kernel, rfl, by decide +kernel, by decide +kernel⟩
abbrev s__law_spoilt : Stmt := topS 42
abbrev N__law_spoilt : List Str := ["_law_bag_here", "_law_rows", "_law_group", "_law_powers", "_law_made", "_law_told", "_law_worths", "_law_used", "_law_table", "_law_symbols", "_law_kind", "_law_name_here", "_law_left", "_law_kept", "_law_symbol"]
theorem sc__law_spoilt : FnScope ["_law_bag_here", "_law_rows", "_law_group", "_law_powers", "_law_made", "_law_told", "_law_worths", "_law_used", "_law_table", "_law_symbols", "_law_kind", "_law_name_here", "_law_left", "_law_kept", "_law_symbol"] ["_law_bag_here", "_law_rows", "_law_group", "_law_powers"] (defScope s__law_spoilt) := ⟨rfl, rfl, rfl, by decide +kernel, rfl, by decide +kernel, by decide +kernel⟩
abbrev s__law_refused : Stmt := topS 43
abbrev N__law_refused : List Str := ["_law_one", "_law_other", "e"]
theorem sc__law_refused : FnScope ["_law_one", "_law_other", "e"] ["_law_one", "_law_other"] (defScope s__law_refused) := ⟨rfl, rfl, rfl, by decide +kernel, rfl, by decide +kernel, by decide +kernel⟩
abbrev s_law : Stmt := topS 44
abbrev N_law : List Str := ["_law_script", "_law_bag_here", "_law_spoils", "_law_rows", "_law_group", "_law_powers", "_law_made", "_law_turned_here", "_law_one", "_law_other", "_law_left", "_law_right", "_law_due_here", "_law_told", "_law_back", "_law_thing"]
theorem sc_law : FnScope ["_law_script", "_law_bag_here", "_law_spoils", "_law_rows", "_law_group", "_law_powers", "_law_made", "_law_turned_here", "_law_one", "_law_other", "_law_left", "_law_right", "_law_due_here", "_law_told", "_law_back", "_law_thing"] ["_law_script"] (defScope s_law) := ⟨rfl, rfl, rfl, by decide +kernel, rfl, by decide +kernel, by decide +kernel⟩
end Fm

namespace Fm
open PySem PySem.Spec PyProof.Rows L2
/-! ### data in the heap: v tells d, at most n deep; with q = true no dict in it is locked -/
def keyD : Key → PyData
  | .inl i => .int i
  | .inr x => .str x
def DkAt (q : Bool) (H : Hp) (a : Addr) (kvs : List (Key × V)) : Prop := if q = true then H a = some (.dK kvs) else Rd H a (.dK kvs)
mutual
inductive Dt (S : Addr → Prop) (q : Bool) (H : Hp) : Nat → V → PyData → Prop
  | non {n : Nat} : Dt S q H n .non .none
  | bl {n : Nat} (b : Bool) : Dt S q H n (.bl b) (.bool b)
  | int {n : Nat} (i : Int) : Dt S q H n (.int i) (.int i)
  | str {n : Nat} (x : Str) (h : x.length ≤ 1000000) : Dt S q H n (.str x) (.str x)
  | lst {n : Nat} {a : Addr} {xs : List V} {ds : List PyData} : Rd H a (.lst xs) → xs.length ≤ 1000000 ∧ S a → DtAll S q H n xs ds → Dt S q H (n + 1) (.ref a) (.list ds)
  | tup {n : Nat} {a : Addr} {xs : List V} {ds : List PyData} : H a = some (.tup xs) → xs.length ≤ 1000000 ∧ S a → DtAll S q H n xs ds → Dt S q H (n + 1) (.ref a) (.tuple ds)
  | dic {n : Nat} {a : Addr} {kvs : List (Key × V)} {ds : List (PyData × PyData)} : DkAt q H a kvs → (kvs.length ≤ 1000000 ∧ (kvs.map (·.1)).Nodup) ∧ S a → DtKV S q H n kvs ds → Dt S q H (n + 1) (.ref a) (.dict ds)
inductive DtAll (S : Addr → Prop) (q : Bool) (H : Hp) : Nat → List V → List PyData → Prop
  | nil {n : Nat} : DtAll S q H n [] []
  | cons {n : Nat} {v : V} {vs : List V} {d : PyData} {ds : List PyData} : Dt S q H n v d → DtAll S q H n vs ds → DtAll S q H n (v :: vs) (d :: ds)
inductive DtKV (S : Addr → Prop) (q : Bool) (H : Hp) : Nat → List (Key × V) → List (PyData × PyData) → Prop
  | nil {n : Nat} : DtKV S q H n [] []
  | cons {n : Nat} {k : Key} {v : V} {vs : List (Key × V)} {d : PyData} {ds : List (PyData × PyData)} : Dt S q H n v d → DtKV S q H n vs ds → DtKV S q H n ((k, v) :: vs) ((keyD k, d) :: ds)
end
/-- what stood stands, or is locked now -/
def Sm (H H' : Hp) : Prop := ∀ a o, H a = some o → H' a = some o ∨ (∃ ob, H' a = some (.frz ob o)) ∧ (∀ ob u, o ≠ .frz ob u) ∧ ∀ xs, o ≠ .tup xs
theorem Sm.rd {H H' : Hp} (s : Sm H H') {a : Addr} {u : HO} (r : Rd H a u) : Rd H' a u := by
  rcases r with r | ⟨o, r⟩
  · rcases s a u r with h | ⟨⟨ob, h⟩, _⟩
    · exact .inl h
    · exact .inr ⟨ob, h⟩
  · rcases s a _ r with h | ⟨_, h⟩
    · exact .inr ⟨o, h⟩
    · exact absurd rfl (h.1 o u)
theorem Sm.tup {H H' : Hp} (s : Sm H H') {a : Addr} {xs : List V} (r : H a = some (.tup xs)) : H' a = some (.tup xs) := by
  rcases s a _ r with h | ⟨_, _, h⟩
  · exact h
  · exact absurd rfl (h xs)
theorem Kp.sm {H H' : Hp} (k : Kp [] H H') : Sm H H' := fun a o e => .inl (k.at_ a o e (fun z => nomatch z))
theorem Sm.lock {H : Hp} {d : Addr} {u : HO} {od : Obj} (e : H d = some u) (hu : ∀ ob x, u ≠ .frz ob x) (hv : ∀ xs, u ≠ .tup xs) : Sm H (upd H d (.frz od u)) := fun a o h => by
  by_cases z : a = d
  · rw [z, e] at h
    cases h
    exact .inr ⟨⟨od, by rw [z, upd_same]⟩, hu, hv⟩
  · exact .inl (by rw [upd_ne z]; exact h)
mutual
theorem Dt.sm {S : Addr → Prop} {H H' : Hp} (s : Sm H H') : ∀ {n : Nat} {v : V} {d : PyData}, Dt S false H n v d → Dt S false H' n v d
  | _, _, _, .non => .non
  | _, _, _, .bl b => .bl b
  | _, _, _, .int b => .int b
  | _, _, _, .str b h => .str b h
  | _, _, _, .lst r l a => .lst (s.rd r) l (DtAll.sm s a)
  | _, _, _, .tup r l a => .tup (s.tup r) l (DtAll.sm s a)
  | _, _, _, .dic r l a => .dic (show DkAt false H' _ _ from s.rd (show Rd H _ _ from r)) l (DtKV.sm s a)
theorem DtAll.sm {S : Addr → Prop} {H H' : Hp} (s : Sm H H') : ∀ {n : Nat} {v : List V} {d : List PyData}, DtAll S false H n v d → DtAll S false H' n v d
  | _, _, _, .nil => .nil
  | _, _, _, .cons a b => .cons (Dt.sm s a) (DtAll.sm s b)
theorem DtKV.sm {S : Addr → Prop} {H H' : Hp} (s : Sm H H') : ∀ {n : Nat} {v : List (Key × V)} {d : List (PyData × PyData)}, DtKV S false H n v d → DtKV S false H' n v d
  | _, _, _, .nil => .nil
  | _, _, _, .cons a b => .cons (Dt.sm s a) (DtKV.sm s b)
end
theorem Kp.rd {ms : List Addr} {H H' : Hp} {a : Addr} {u : HO} (k : Kp ms H H') (hm : a ∉ ms) (r : Rd H a u) : Rd H' a u := by
  rcases r with r | ⟨o, r⟩
  · exact .inl (k.at_ _ _ r hm)
  · exact .inr ⟨o, k.at_ _ _ r hm⟩
theorem rd_keep {H H' : Hp} {a : Addr} {u : HO} (s : ∀ o, H a = some o → H' a = some o) (r : Rd H a u) : Rd H' a u := by
  rcases r with r | ⟨o, r⟩
  · exact .inl (s _ r)
  · exact .inr ⟨o, s _ r⟩
mutual
theorem Dt.keep {S : Addr → Prop} {q : Bool} {H H' : Hp} (s : Kp [] H H') : ∀ {n : Nat} {v : V} {d : PyData}, Dt S q H n v d → Dt S q H' n v d
  | _, _, _, .non => .non
  | _, _, _, .bl b => .bl b
  | _, _, _, .int b => .int b
  | _, _, _, .str b h => .str b h
  | _, _, _, .lst r l a => .lst (s.rd (fun z => nomatch z) r) l (DtAll.keep s a)
  | _, _, _, .tup r l a => .tup (s.tp _ _ r) l (DtAll.keep s a)
  | _, _, _, .dic r l a => .dic (by
      unfold DkAt at r ⊢
      cases q with
      | true => exact s.at_ _ _ r (fun z => nomatch z)
      | false => exact s.rd (fun z => nomatch z) r) l (DtKV.keep s a)
theorem DtAll.keep {S : Addr → Prop} {q : Bool} {H H' : Hp} (s : Kp [] H H') : ∀ {n : Nat} {v : List V} {d : List PyData}, DtAll S q H n v d → DtAll S q H' n v d
  | _, _, _, .nil => .nil
  | _, _, _, .cons a b => .cons (Dt.keep s a) (DtAll.keep s b)
theorem DtKV.keep {S : Addr → Prop} {q : Bool} {H H' : Hp} (s : Kp [] H H') : ∀ {n : Nat} {v : List (Key × V)} {d : List (PyData × PyData)}, DtKV S q H n v d → DtKV S q H' n v d
  | _, _, _, .nil => .nil
  | _, _, _, .cons a b => .cons (Dt.keep s a) (DtKV.keep s b)
end
mutual
theorem Dt.keepS {S S' : Addr → Prop} {q : Bool} {H H' : Hp} (s : ∀ a o, S a → H a = some o → H' a = some o) (i : ∀ a, S a → S' a) : ∀ {n : Nat} {v : V} {d : PyData}, Dt S q H n v d → Dt S' q H' n v d
  | _, _, _, .non => .non
  | _, _, _, .bl b => .bl b
  | _, _, _, .int b => .int b
  | _, _, _, .str b h => .str b h
  | _, _, _, .lst r l a => .lst (rd_keep (fun o e => s _ o l.2 e) r) ⟨l.1, i _ l.2⟩ (DtAll.keepS s i a)
  | _, _, _, .tup r l a => .tup (s _ _ l.2 r) ⟨l.1, i _ l.2⟩ (DtAll.keepS s i a)
  | _, _, _, .dic r l a => .dic (by
      unfold DkAt at r ⊢
      cases q with
      | true => exact s _ _ l.2 r
      | false => exact rd_keep (fun o e => s _ o l.2 e) r) ⟨l.1, i _ l.2⟩ (DtKV.keepS s i a)
theorem DtAll.keepS {S S' : Addr → Prop} {q : Bool} {H H' : Hp} (s : ∀ a o, S a → H a = some o → H' a = some o) (i : ∀ a, S a → S' a) : ∀ {n : Nat} {v : List V} {d : List PyData}, DtAll S q H n v d → DtAll S' q H' n v d
  | _, _, _, .nil => .nil
  | _, _, _, .cons a b => .cons (Dt.keepS s i a) (DtAll.keepS s i b)
theorem DtKV.keepS {S S' : Addr → Prop} {q : Bool} {H H' : Hp} (s : ∀ a o, S a → H a = some o → H' a = some o) (i : ∀ a, S a → S' a) : ∀ {n : Nat} {v : List (Key × V)} {d : List (PyData × PyData)}, DtKV S q H n v d → DtKV S' q H' n v d
  | _, _, _, .nil => .nil
  | _, _, _, .cons a b => .cons (Dt.keepS s i a) (DtKV.keepS s i b)
end
theorem Dt.imp {S S' : Addr → Prop} {q : Bool} {H : Hp} {n : Nat} {v : V} {d : PyData} (h : Dt S q H n v d) (i : ∀ a, S a → S' a) : Dt S' q H n v d := h.keepS (fun _ _ _ e => e) i
theorem DtAll.imp {S S' : Addr → Prop} {q : Bool} {H : Hp} {n : Nat} {v : List V} {d : List PyData} (h : DtAll S q H n v d) (i : ∀ a, S a → S' a) : DtAll S' q H n v d := h.keepS (fun _ _ _ e => e) i
mutual
theorem Dt.weak {S : Addr → Prop} {H : Hp} : ∀ {q : Bool} {n : Nat} {v : V} {d : PyData}, Dt S q H n v d → Dt S false H n v d
  | _, _, _, _, .non => .non
  | _, _, _, _, .bl b => .bl b
  | _, _, _, _, .int b => .int b
  | _, _, _, _, .str b h => .str b h
  | _, _, _, _, .lst r l a => .lst r l (DtAll.weak a)
  | _, _, _, _, .tup r l a => .tup r l (DtAll.weak a)
  | q, _, _, _, .dic r l a => .dic (by
      unfold DkAt at r ⊢
      cases q with
      | true => exact .inl r
      | false => exact r) l (DtKV.weak a)
theorem DtAll.weak {S : Addr → Prop} {H : Hp} : ∀ {q : Bool} {n : Nat} {v : List V} {d : List PyData}, DtAll S q H n v d → DtAll S false H n v d
  | _, _, _, _, .nil => .nil
  | _, _, _, _, .cons a b => .cons (Dt.weak a) (DtAll.weak b)
theorem DtKV.weak {S : Addr → Prop} {H : Hp} : ∀ {q : Bool} {n : Nat} {v : List (Key × V)} {d : List (PyData × PyData)}, DtKV S q H n v d → DtKV S false H n v d
  | _, _, _, _, .nil => .nil
  | _, _, _, _, .cons a b => .cons (Dt.weak a) (DtKV.weak b)
end
mutual
theorem Dt.mono {S : Addr → Prop} {q : Bool} {H : Hp} : ∀ {n m : Nat} {v : V} {d : PyData}, n ≤ m → Dt S q H n v d → Dt S q H m v d
  | _, _, _, _, _, .non => .non
  | _, _, _, _, _, .bl b => .bl b
  | _, _, _, _, _, .int b => .int b
  | _, _, _, _, _, .str b h => .str b h
  | n + 1, m + 1, _, _, h, .lst r l a => .lst r l (DtAll.mono (Nat.le_of_succ_le_succ h) a)
  | n + 1, m + 1, _, _, h, .tup r l a => .tup r l (DtAll.mono (Nat.le_of_succ_le_succ h) a)
  | n + 1, m + 1, _, _, h, .dic r l a => .dic r l (DtKV.mono (Nat.le_of_succ_le_succ h) a)
theorem DtAll.mono {S : Addr → Prop} {q : Bool} {H : Hp} : ∀ {n m : Nat} {v : List V} {d : List PyData}, n ≤ m → DtAll S q H n v d → DtAll S q H m v d
  | _, _, _, _, _, .nil => .nil
  | _, _, _, _, h, .cons a b => .cons (Dt.mono h a) (DtAll.mono h b)
theorem DtKV.mono {S : Addr → Prop} {q : Bool} {H : Hp} : ∀ {n m : Nat} {v : List (Key × V)} {d : List (PyData × PyData)}, n ≤ m → DtKV S q H n v d → DtKV S q H m v d
  | _, _, _, _, _, .nil => .nil
  | _, _, _, _, h, .cons a b => .cons (Dt.mono h a) (DtKV.mono h b)
end
theorem rd_fun {H : Hp} {a : Addr} {u u' : HO} (r : Rd H a u) (r' : Rd H a u') (h : ∀ ob x, u ≠ .frz ob x) (h' : ∀ ob x, u' ≠ .frz ob x) : u = u' := by
  rcases r with r | ⟨o, r⟩ <;> rcases r' with r' | ⟨o', r'⟩ <;> rw [r] at r' <;> cases r'
  · rfl
  · exact absurd rfl (h _ _)
  · exact absurd rfl (h' _ _)
  · rfl
theorem keyD_inj {k k' : Key} (h : keyD k = keyD k') : k = k' := by
  cases k <;> cases k' <;> cases h <;> rfl
mutual
theorem Dt.det {S S' : Addr → Prop} {H : Hp} : ∀ {n m : Nat} {v : V} {d e : PyData}, Dt S false H n v d → Dt S' false H m v e → d = e
  | _, _, _, _, _, .non, .non => rfl
  | _, _, _, _, _, .bl _, .bl _ => rfl
  | _, _, _, _, _, .int _, .int _ => rfl
  | _, _, _, _, _, .str _ _, .str _ _ => rfl
  | _, _, _, _, _, .lst r l a, h => by
    cases h with
    | lst r' l' a' =>
      have e := rd_fun r r' (fun _ _ z => by cases z) (fun _ _ z => by cases z)
      cases e
      rw [DtAll.det a a']
    | tup r' l' a' =>
      have e := rd_fun r (.inl r') (fun _ _ z => by cases z) (fun _ _ z => by cases z)
      cases e
    | dic r' l' a' =>
      have e := rd_fun r (show Rd H _ _ from r') (fun _ _ z => by cases z) (fun _ _ z => by cases z)
      cases e
  | _, _, _, _, _, .tup r l a, h => by
    cases h with
    | lst r' l' a' =>
      have e := rd_fun (.inl r) r' (fun _ _ z => by cases z) (fun _ _ z => by cases z)
      cases e
    | tup r' l' a' =>
      have e := rd_fun (.inl r) (.inl r') (fun _ _ z => by cases z) (fun _ _ z => by cases z)
      cases e
      rw [DtAll.det a a']
    | dic r' l' a' =>
      have e := rd_fun (.inl r) (show Rd H _ _ from r') (fun _ _ z => by cases z) (fun _ _ z => by cases z)
      cases e
  | _, _, _, _, _, .dic r l a, h => by
    cases h with
    | lst r' l' a' =>
      have e := rd_fun (show Rd H _ _ from r) r' (fun _ _ z => by cases z) (fun _ _ z => by cases z)
      cases e
    | tup r' l' a' =>
      have e := rd_fun (show Rd H _ _ from r) (.inl r') (fun _ _ z => by cases z) (fun _ _ z => by cases z)
      cases e
    | dic r' l' a' =>
      have e := rd_fun (show Rd H _ _ from r) (show Rd H _ _ from r') (fun _ _ z => by cases z) (fun _ _ z => by cases z)
      cases e
      rw [DtKV.det a a']
theorem DtAll.det {S S' : Addr → Prop} {H : Hp} : ∀ {n m : Nat} {v : List V} {d e : List PyData}, DtAll S false H n v d → DtAll S' false H m v e → d = e
  | _, _, _, _, _, .nil, .nil => rfl
  | _, _, _, _, _, .cons a b, .cons a' b' => by rw [Dt.det a a', DtAll.det b b']
theorem DtKV.det {S S' : Addr → Prop} {H : Hp} : ∀ {n m : Nat} {v : List (Key × V)} {d e : List (PyData × PyData)}, DtKV S false H n v d → DtKV S' false H m v e → d = e
  | _, _, _, _, _, .nil, .nil => rfl
  | _, _, _, _, _, .cons a b, .cons a' b' => by rw [Dt.det a a', DtKV.det b b']
end
/-- locking a dict leaves data that is less than its own -/
theorem rd_lock {H : Hp} {a p : Addr} {u : HO} {kvs : List (Key × V)} {od : Obj} (hp : H p = some (.dK kvs)) (hu : ∀ kvs, u ≠ .dK kvs) (hf : ∀ ob x, u ≠ .frz ob x) (r : Rd H a u) : Rd (upd H p (.frz od (.dK kvs))) a u :=
  (Sm.lock (od := od) hp (fun _ _ z => by cases z) (fun _ z => by cases z)).rd r
mutual
theorem Dt.lock {S : Addr → Prop} {H : Hp} {p : Addr} {kvs : List (Key × V)} {ds : List (PyData × PyData)} {od : Obj} {m : Nat} (hp : H p = some (.dK kvs)) (hl : (kvs.length ≤ 1000000 ∧ (kvs.map (·.1)).Nodup) ∧ S p) (hd : DtKV S false H m kvs ds) : ∀ {n : Nat} {v : V} {d : PyData}, Dt S true H n v d → sizeOf d < sizeOf (PyData.dict ds) → Dt S true (upd H p (.frz od (.dK kvs))) n v d
  | _, _, _, .non, _ => .non
  | _, _, _, .bl b, _ => .bl b
  | _, _, _, .int b, _ => .int b
  | _, _, _, .str b h, _ => .str b h
  | _, _, _, .lst r l a, h => .lst (rd_lock hp (fun _ z => by cases z) (fun _ _ z => by cases z) r) l (DtAll.lock hp hl hd a (by simp at h ⊢; omega))
  | _, _, _, .tup r l a, h => .tup ((Sm.lock (od := od) hp (fun _ _ z => by cases z) (fun _ z => by cases z)).tup r) l (DtAll.lock hp hl hd a (by simp at h ⊢; omega))
  | n + 1, .ref x, .dict es, .dic (kvs := kvs') r l a, h => by
    have r' : H x = some (.dK kvs') := r
    refine .dic ?_ l (DtKV.lock hp hl hd a (by simp at h ⊢; omega))
    show upd H p _ x = some (.dK kvs')
    by_cases z : x = p
    · exfalso
      have e : Dt S false H (m + 1) (.ref x) (.dict ds) := by rw [z]; exact .dic (show Rd H p _ from .inl hp) hl hd
      have e2 : Dt S false H (n + 1) (.ref x) (.dict es) := .dic (show Rd H x _ from .inl r') l (DtKV.weak a)
      have e3 := Dt.det e2 e
      rw [e3] at h
      exact Nat.lt_irrefl _ h
    · rw [upd_ne z]; exact r'
theorem DtAll.lock {S : Addr → Prop} {H : Hp} {p : Addr} {kvs : List (Key × V)} {ds : List (PyData × PyData)} {od : Obj} {m : Nat} (hp : H p = some (.dK kvs)) (hl : (kvs.length ≤ 1000000 ∧ (kvs.map (·.1)).Nodup) ∧ S p) (hd : DtKV S false H m kvs ds) : ∀ {n : Nat} {v : List V} {d : List PyData}, DtAll S true H n v d → sizeOf d < sizeOf (PyData.dict ds) → DtAll S true (upd H p (.frz od (.dK kvs))) n v d
  | _, _, _, .nil, _ => .nil
  | _, _, _, .cons a b, h => .cons (Dt.lock hp hl hd a (by simp at h ⊢; omega)) (DtAll.lock hp hl hd b (by simp at h ⊢; omega))
theorem DtKV.lock {S : Addr → Prop} {H : Hp} {p : Addr} {kvs : List (Key × V)} {ds : List (PyData × PyData)} {od : Obj} {m : Nat} (hp : H p = some (.dK kvs)) (hl : (kvs.length ≤ 1000000 ∧ (kvs.map (·.1)).Nodup) ∧ S p) (hd : DtKV S false H m kvs ds) : ∀ {n : Nat} {v : List (Key × V)} {d : List (PyData × PyData)}, DtKV S true H n v d → sizeOf d < sizeOf (PyData.dict ds) → DtKV S true (upd H p (.frz od (.dK kvs))) n v d
  | _, _, _, .nil, _ => .nil
  | _, _, _, .cons a b, h => .cons (Dt.lock hp hl hd a (by simp at h ⊢; omega)) (DtKV.lock hp hl hd b (by simp at h ⊢; omega))
end
/-! ### items -/
theorem DtAll.len {S : Addr → Prop} {q : Bool} {H : Hp} : ∀ {n : Nat} {v : List V} {d : List PyData}, DtAll S q H n v d → v.length = d.length
  | _, _, _, .nil => rfl
  | _, _, _, .cons _ b => by rw [List.length_cons, List.length_cons, DtAll.len b]
theorem DtAll.get {S : Addr → Prop} {q : Bool} {H : Hp} : ∀ {n : Nat} {v : List V} {d : List PyData}, DtAll S q H n v d → ∀ {i : Nat} {x : PyData}, d[i]? = some x → ∃ y, v[i]? = some y ∧ Dt S q H n y x
  | _, _, _, .cons a b, 0, x, h => by cases h; exact ⟨_, rfl, a⟩
  | _, _, _, .cons a b, i + 1, x, h => b.get (i := i) h
theorem DtAll.getV {S : Addr → Prop} {q : Bool} {H : Hp} : ∀ {n : Nat} {v : List V} {d : List PyData}, DtAll S q H n v d → ∀ {i : Nat} {y : V}, v[i]? = some y → ∃ x, d[i]? = some x ∧ Dt S q H n y x
  | _, _, _, .cons a b, 0, x, h => by cases h; exact ⟨_, rfl, a⟩
  | _, _, _, .cons a b, i + 1, x, h => b.getV (i := i) h
theorem DtAll.append {S : Addr → Prop} {q : Bool} {H : Hp} : ∀ {n : Nat} {v v' : List V} {d d' : List PyData}, DtAll S q H n v d → DtAll S q H n v' d' → DtAll S q H n (v ++ v') (d ++ d')
  | _, _, _, _, _, .nil, h => h
  | _, _, _, _, _, .cons a b, h => .cons a (b.append h)
theorem DtKV.len {S : Addr → Prop} {q : Bool} {H : Hp} : ∀ {n : Nat} {v : List (Key × V)} {d : List (PyData × PyData)}, DtKV S q H n v d → v.length = d.length
  | _, _, _, .nil => rfl
  | _, _, _, .cons _ b => by rw [List.length_cons, List.length_cons, DtKV.len b]
theorem DtKV.keys {S S' : Addr → Prop} {q q' : Bool} {H H' : Hp} : ∀ {n m : Nat} {v v' : List (Key × V)} {d : List (PyData × PyData)}, DtKV S q H n v d → DtKV S' q' H' m v' d → v.map (·.1) = v'.map (·.1)
  | _, _, _, _, _, .nil, h => by cases h; rfl
  | _, _, _, _, _, .cons (k := k) a b, h => by
    generalize hd : keyD k = kd at h
    cases h with
    | @cons _ k' _ _ _ _ a' b' =>
      have e := keyD_inj hd
      rw [List.map_cons, List.map_cons, b.keys b']
      show k :: _ = k' :: _
      rw [e]
theorem DtKV.val {S S' : Addr → Prop} {q q' : Bool} {H H' : Hp} : ∀ {n m : Nat} {v v' : List (Key × V)} {d : List (PyData × PyData)}, DtKV S q H n v d → DtKV S' q' H' m v' d → ∀ (k : Key), k ∈ v.map (·.1) → ∃ x y e, valV v k = some x ∧ valV v' k = some y ∧ Dt S q H n x e ∧ Dt S' q' H' m y e ∧ sizeOf e < sizeOf (PyData.dict d)
  | _, _, _, _, _, .nil, h, k, hk => nomatch hk
  | _, _, _, _, _, .cons (k := k0) (v := v0) (vs := vs) a b, h, k, hk => by
    generalize hd : keyD k0 = kd at h
    cases h with
    | @cons _ k' v1 vs' _ _ a' b' =>
      have e := keyD_inj hd
      subst e
      by_cases z : k0 = k
      · refine ⟨_, _, _, ?_, ?_, a, a', ?_⟩
        · unfold valV; rw [List.find?_cons_of_pos (by simp [z])]; rfl
        · unfold valV; rw [List.find?_cons_of_pos (by simp [z])]; rfl
        · simp; omega
      · have hk' : k ∈ vs.map (·.1) := by
          rcases List.mem_cons.mp hk with h | h
          · exact absurd h.symm z
          · exact h
        obtain ⟨x, y, e, h1, h2, h3, h4, h5⟩ := b.val b' k hk'
        refine ⟨x, y, e, ?_, ?_, h3, h4, ?_⟩
        · unfold valV at h1 ⊢; rw [List.find?_cons_of_neg (by simp [z])]; exact h1
        · unfold valV at h2 ⊢; rw [List.find?_cons_of_neg (by simp [z])]; exact h2
        · simp at h5 ⊢; omega
theorem DtKV.getV {S : Addr → Prop} {q : Bool} {H : Hp} : ∀ {n : Nat} {v : List (Key × V)} {d : List (PyData × PyData)}, DtKV S q H n v d → ∀ {i : Nat} {k : Key} {y : V}, v[i]? = some (k, y) → ∃ x, d[i]? = some (keyD k, x) ∧ Dt S q H n y x ∧ sizeOf x < sizeOf (PyData.dict d)
  | _, _, _, .cons a b, 0, k, y, h => by
    cases h
    exact ⟨_, rfl, a, by simp; omega⟩
  | _, _, _, .cons a b, i + 1, k, y, h => by
    obtain ⟨x, h1, h2, h3⟩ := b.getV (i := i) h
    exact ⟨x, h1, h2, by simp at h3 ⊢; omega⟩
theorem DtKV.append {S : Addr → Prop} {q : Bool} {H : Hp} : ∀ {n : Nat} {v v' : List (Key × V)} {d d' : List (PyData × PyData)}, DtKV S q H n v d → DtKV S q H n v' d' → DtKV S q H n (v ++ v') (d ++ d')
  | _, _, _, _, _, .nil, h => h
  | _, _, _, _, _, .cons a b, h => .cons a (b.append h)
theorem valV_out {kvs : List (Key × V)} {k : Key} (h : k ∉ kvs.map (·.1)) : valV kvs k = none := by
  unfold valV
  rw [Option.map_eq_none_iff, List.find?_eq_none]
  intro x hx hk
  exact h (List.mem_map.mpr ⟨x, hx, of_decide_eq_true hk⟩)
theorem valV_at : ∀ {kvs : List (Key × V)} {i : Nat} {k : Key} {v : V}, (kvs.map (·.1)).Nodup → kvs[i]? = some (k, v) → valV kvs k = some v
  | [], _, _, _, _, h => by cases h
  | p :: r, 0, k, v, _, h => by
    cases h
    unfold valV
    rw [List.find?_cons_of_pos (by simp)]; rfl
  | p :: r, i + 1, k, v, nd, h => by
    have ih := valV_at (kvs := r) (i := i) (List.nodup_cons.mp nd).2 h
    have hm : k ∈ r.map (·.1) := List.mem_map.mpr ⟨(k, v), List.mem_of_getElem? h, rfl⟩
    have hne : p.1 ≠ k := fun z => (List.nodup_cons.mp nd).1 (by rw [← z] at hm; exact hm)
    unfold valV at ih ⊢
    rw [List.find?_cons_of_neg (by simp [hne])]
    exact ih
theorem nodup_at {α : Type} : ∀ {l : List α} (_ : l.Nodup) {i j : Nat} (hi : i < l.length) (hj : j < l.length), l[i] = l[j] → i = j
  | a :: l, nd, 0, 0, _, _, _ => rfl
  | a :: l, nd, 0, j + 1, _, hj, e => absurd (show a ∈ l by rw [show a = l[j]'(by simpa using hj) from e]; exact List.getElem_mem _) (List.nodup_cons.mp nd).1
  | a :: l, nd, i + 1, 0, hi, _, e => absurd (show a ∈ l by rw [← show l[i]'(by simpa using hi) = a from e]; exact List.getElem_mem _) (List.nodup_cons.mp nd).1
  | a :: l, nd, i + 1, j + 1, hi, hj, e => congrArg (· + 1) (nodup_at (List.nodup_cons.mp nd).2 (by simpa using hi) (by simpa using hj) e)
theorem notin_take {α : Type} {l : List α} {i : Nat} {x : α} (nd : l.Nodup) (h : l[i]? = some x) : x ∉ l.take i := fun hm => by
  obtain ⟨j, hj, e⟩ := List.mem_take_iff_getElem.mp hm
  obtain ⟨hi, e2⟩ := List.getElem?_eq_some_iff.mp h
  have := (nodup_at nd (by omega) hi (e.trans e2.symm))
  omega
/-! ### what isinstance tells of data -/
def tyD : PyData → Value
  | .none => .type "NoneType"
  | .bool _ => .type "bool"
  | .int _ => .type "int"
  | .str _ => .type "str"
  | .list _ => .type "list"
  | .tuple _ => .type "tuple"
  | .dict _ => .type "dict"
end Fm
namespace Fm
open PySem PySem.Spec PyProof.Rows L2
def tyS : PyData → String
  | .none => "NoneType"
  | .bool _ => "bool"
  | .int _ => "int"
  | .str _ => "str"
  | .list _ => "list"
  | .tuple _ => "tuple"
  | .dict _ => "dict"
theorem Dt.ty {S : Addr → Prop} {K : PySem.W.Frag} {q : Bool} {H : Hp} : ∀ {n : Nat} {v : V} {d : PyData}, Dt S q H n v d → TyX K H v (.type (tyS d))
  | _, _, _, .non => .base .non
  | _, _, _, .bl b => .base (.bl b)
  | _, _, _, .int b => .base (.int b)
  | _, _, _, .str b _ => .base (.str b)
  | _, _, _, .lst r l a => by
    rcases r with r | ⟨o, r⟩
    · exact .base (.lst r)
    · exact .base (.frz r)
  | _, _, _, .tup r l a => .base (.tup r)
  | _, _, _, .dic r l a => by
    have r' := (show Rd H _ _ by
      unfold DkAt at r
      cases q with
      | true => exact .inl r
      | false => exact r)
    rcases r' with r | ⟨o, r⟩
    · exact .base (.dK r)
    · exact .fDict r
def isL : PyData → Bool
  | .list _ => true
  | _ => false
theorem kb_list : ∀ d : PyData, kitB (tyS d) "list" = some (isL d)
  | .none => (by decide +kernel : kitB "NoneType" "list" = some false)
  | .bool _ => (by decide +kernel : kitB "bool" "list" = some false)
  | .int _ => (by decide +kernel : kitB "int" "list" = some false)
  | .str _ => (by decide +kernel : kitB "str" "list" = some false)
  | .list _ => (by decide +kernel : kitB "list" "list" = some true)
  | .tuple _ => (by decide +kernel : kitB "tuple" "list" = some false)
  | .dict _ => (by decide +kernel : kitB "dict" "list" = some false)
def isT : PyData → Bool
  | .tuple _ => true
  | _ => false
theorem kb_tuple : ∀ d : PyData, kitB (tyS d) "tuple" = some (isT d)
  | .none => (by decide +kernel : kitB "NoneType" "tuple" = some false)
  | .bool _ => (by decide +kernel : kitB "bool" "tuple" = some false)
  | .int _ => (by decide +kernel : kitB "int" "tuple" = some false)
  | .str _ => (by decide +kernel : kitB "str" "tuple" = some false)
  | .list _ => (by decide +kernel : kitB "list" "tuple" = some false)
  | .tuple _ => (by decide +kernel : kitB "tuple" "tuple" = some true)
  | .dict _ => (by decide +kernel : kitB "dict" "tuple" = some false)
def isM : PyData → Bool
  | .dict _ => true
  | _ => false
theorem kb_dict : ∀ d : PyData, kitB (tyS d) "dict" = some (isM d)
  | .none => (by decide +kernel : kitB "NoneType" "dict" = some false)
  | .bool _ => (by decide +kernel : kitB "bool" "dict" = some false)
  | .int _ => (by decide +kernel : kitB "int" "dict" = some false)
  | .str _ => (by decide +kernel : kitB "str" "dict" = some false)
  | .list _ => (by decide +kernel : kitB "list" "dict" = some false)
  | .tuple _ => (by decide +kernel : kitB "tuple" "dict" = some false)
  | .dict _ => (by decide +kernel : kitB "dict" "dict" = some true)
def isB : PyData → Bool
  | .bool _ => true
  | _ => false
theorem kb_bool : ∀ d : PyData, kitB (tyS d) "bool" = some (isB d)
  | .none => (by decide +kernel : kitB "NoneType" "bool" = some false)
  | .bool _ => (by decide +kernel : kitB "bool" "bool" = some true)
  | .int _ => (by decide +kernel : kitB "int" "bool" = some false)
  | .str _ => (by decide +kernel : kitB "str" "bool" = some false)
  | .list _ => (by decide +kernel : kitB "list" "bool" = some false)
  | .tuple _ => (by decide +kernel : kitB "tuple" "bool" = some false)
  | .dict _ => (by decide +kernel : kitB "dict" "bool" = some false)
def isI : PyData → Bool
  | .bool _ => true
  | .int _ => true
  | _ => false
theorem kb_int : ∀ d : PyData, kitB (tyS d) "int" = some (isI d)
  | .none => (by decide +kernel : kitB "NoneType" "int" = some false)
  | .bool _ => (by decide +kernel : kitB "bool" "int" = some true)
  | .int _ => (by decide +kernel : kitB "int" "int" = some true)
  | .str _ => (by decide +kernel : kitB "str" "int" = some false)
  | .list _ => (by decide +kernel : kitB "list" "int" = some false)
  | .tuple _ => (by decide +kernel : kitB "tuple" "int" = some false)
  | .dict _ => (by decide +kernel : kitB "dict" "int" = some false)
def isS : PyData → Bool
  | .str _ => true
  | _ => false
theorem kb_str : ∀ d : PyData, kitB (tyS d) "str" = some (isS d)
  | .none => (by decide +kernel : kitB "NoneType" "str" = some false)
  | .bool _ => (by decide +kernel : kitB "bool" "str" = some false)
  | .int _ => (by decide +kernel : kitB "int" "str" = some false)
  | .str _ => (by decide +kernel : kitB "str" "str" = some true)
  | .list _ => (by decide +kernel : kitB "list" "str" = some false)
  | .tuple _ => (by decide +kernel : kitB "tuple" "str" = some false)
  | .dict _ => (by decide +kernel : kitB "dict" "str" = some false)
theorem isi1 {S : Addr → Prop} {K : PySem.W.Frag} {q : Bool} {H : Hp} {n : Nat} {x : V} {d : PyData} {T : String} {b : Bool} {Q : VK} (h : Dt S q H n x d) (hb : kitB (tyS d) T = some b) (hq : Q (.bl b) H) : rIsi K [x, .ty T] H Q :=
  ⟨x, .ty T, .type (tyS d), .type T, b, rfl, .ty T, h.ty, kit_ty hb, hq⟩
def isRowD : PyData → Bool
  | .list _ => true
  | .tuple _ => true
  | _ => false
theorem kit_row {K : PySem.W.Frag} (d : PyData) : PySem.W.kitAny K (.type (tyS d)) [.type "list", .type "tuple"] = some (isRowD d) := by
  refine kitAny_cons (kit_ty (kb_list d)) (fun e => kitAny_cons (kit_ty (kb_tuple d)) (fun e' => ?_) (fun e' => ?_)) (fun e => ?_)
  · cases d <;> first | rfl | exact Bool.noConfusion e' | exact Bool.noConfusion e
  · cases d <;> first | rfl | exact Bool.noConfusion e' | exact Bool.noConfusion e
  · cases d <;> first | rfl | exact Bool.noConfusion e
theorem isiR {S : Addr → Prop} {K : PySem.W.Frag} {q : Bool} {H : Hp} {n : Nat} {x : V} {d : PyData} {T : Addr} {Q : VK} (h : Dt S q H n x d) (hT : H T = some (.tup [.ty "list", .ty "tuple"])) (hq : Q (.bl (isRowD d)) H) : rIsiT K [x, .ref T] H Q :=
  ⟨x, T, _, .type (tyS d), [.type "list", .type "tuple"], _, rfl, hT, .cons (.ty _) (.cons (.ty _) .nil), h.ty, kit_row d, hq⟩
theorem iteB {b c : Bool} {A B : Prop} (e : b = c) (h : if c = true then A else B) : if b = true then A else B := by rw [e]; exact h
theorem callR_or {X : Cx} {f : Value} {r r' : List V → Hp → VK → Prop} (h : CallR X f r) (h' : CallR X f r') : CallR X f (fun xs H Q => r xs H Q ∨ r' xs H Q) := by
  intro pins s σ H xs us Q I rv q
  rcases q with q | q
  · exact h pins s σ H xs us Q I rv q
  · exact h' pins s σ H xs us Q I rv q
theorem opR_or {X : Cx} {f : Value → Value → Sem Value} {r r' : R2} (h : OpR X f r) (h' : OpR X f r') : OpR X f (fun x y H Q => r x y H Q ∨ r' x y H Q) := by
  intro pins s σ H x y v u Q I rx ry q
  rcases q with q | q
  · exact h pins s σ H x y v u Q I rx ry q
  · exact h' pins s σ H x y v u Q I rx ry q
/-- len of a dict, locked or not -/
theorem call_lenR {X : Cx} : CallR X (.builtin "len") (fun xs H Q => ∃ a kvs, xs = [V.ref a] ∧ Rd H a (.dK kvs) ∧ Q (.int kvs.length) H) := by
  intro pins s σ H xs us Q I r h
  obtain ⟨a, kvs, rfl, ha, q⟩ := h
  obtain ⟨u, rfl, ru⟩ := vals1 r
  cases ru
  exact d_len I ha fun t s' I' => ⟨.int kvs.length, H, I', ⟨t, rfl⟩, q⟩
/-- a def of which nothing is promised -/
theorem Dfn.none {P : Program} {w : World} {K : PySem.W.Frag} {mg : Str → Option Value} {base : Heap} {x : Str} {st : Stmt} {ps : List Str} {CX : CXT} {k : Nat} (D : Dfn K mg x st ps) : Has P w K mg base CX x ps k (fun _ _ _ _ => False) := by
  obtain ⟨f, fd, F, g, b⟩ := D
  exact ⟨f, fd, ⟨fun _ _ _ _ h => h.elim, fun _ _ _ _ _ _ _ _ _ _ _ _ _ h => h.elim⟩, g, F.kp, b⟩
end Fm
namespace Fm
open PySem PySem.Spec PyProof.Rows L2
theorem rd_some {H : Hp} {a : Addr} {u : HO} (r : Rd H a u) : H a ≠ none := by
  rcases r with r | ⟨o, r⟩ <;> rw [r] <;> exact fun z => nomatch z
mutual
theorem Dt.inH {S : Addr → Prop} {q : Bool} {H : Hp} : ∀ {n : Nat} {v : V} {d : PyData}, Dt S q H n v d → Dt (fun a => S a ∧ H a ≠ none) q H n v d
  | _, _, _, .non => .non
  | _, _, _, .bl b => .bl b
  | _, _, _, .int b => .int b
  | _, _, _, .str b h => .str b h
  | _, _, _, .lst r l a => .lst r ⟨l.1, l.2, rd_some r⟩ (DtAll.inH a)
  | _, _, _, .tup r l a => .tup r ⟨l.1, l.2, rd_some (.inl r)⟩ (DtAll.inH a)
  | _, _, _, .dic r l a => .dic r ⟨l.1, l.2, by
      unfold DkAt at r
      cases q with
      | true => exact rd_some (.inl r)
      | false => exact rd_some r⟩ (DtKV.inH a)
theorem DtAll.inH {S : Addr → Prop} {q : Bool} {H : Hp} : ∀ {n : Nat} {v : List V} {d : List PyData}, DtAll S q H n v d → DtAll (fun a => S a ∧ H a ≠ none) q H n v d
  | _, _, _, .nil => .nil
  | _, _, _, .cons a b => .cons (Dt.inH a) (DtAll.inH b)
theorem DtKV.inH {S : Addr → Prop} {q : Bool} {H : Hp} : ∀ {n : Nat} {v : List (Key × V)} {d : List (PyData × PyData)}, DtKV S q H n v d → DtKV (fun a => S a ∧ H a ≠ none) q H n v d
  | _, _, _, .nil => .nil
  | _, _, _, .cons a b => .cons (Dt.inH a) (DtKV.inH b)
end
end Fm

namespace Fm
open PySem PySem.Spec PyProof.Rows L2
/-! ### names -/
/-- a text of 1 to 8 letters a to z -/
def IsNm (w : Str) : Prop := 1 ≤ w.length ∧ w.length ≤ 8 ∧ ∀ c ∈ w.cps.toList, 97 ≤ c ∧ c ≤ 122
def abc : Str := "abcdefghijklmnopqrstuvwxyz"
theorem abc_at : ∀ n : Nat, n < 26 → abc.cps.toList[n]? = some (97 + n) := by decide +kernel
theorem abc_size : abc.cps.toList.length = 26 := by decide +kernel
theorem abc_len : abc.length = 26 := by decide +kernel
theorem abc_ix {r : Int} (h0 : 0 ≤ r) (h1 : r < 26) : atI abc.cps.toList r = some (97 + r.toNat) := by
  unfold atI ixN
  rw [abc_size, if_pos h0, if_pos (by omega)]
  exact abc_at r.toNat (by omega)
theorem one_nm {c : Nat} (h : 97 ≤ c ∧ c ≤ 122) : ∀ d ∈ (⟨#[c]⟩ : Str).cps.toList, 97 ≤ d ∧ d ≤ 122 := by
  intro d hd
  have e : d = c := by simpa using hd
  rw [e]; exact h
theorem join_ones : ∀ cs : List Nat, Str.join ⟨#[]⟩ (cs.map fun c => (⟨#[c]⟩ : Str)) = ⟨cs.toArray⟩
  | [] => rfl
  | [c] => rfl
  | c :: d :: r => by
    have ih := join_ones (d :: r)
    show (⟨#[c]⟩ : Str) ++ ⟨#[]⟩ ++ Str.join ⟨#[]⟩ ((d :: r).map fun c => (⟨#[c]⟩ : Str)) = _
    rw [ih]
    refine ext_toList ?_
    show ((#[c] ++ #[]) ++ (d :: r).toArray).toList = _
    simp
theorem txt_join_ones (cs : List Nat) : PySem.Txt.join (Str.ofString "") (cs.map fun c => (⟨#[c]⟩ : Str)) = ⟨cs.toArray⟩ := by
  rw [show (Str.ofString "" : Str) = ⟨#[]⟩ by decide +kernel]
  rw [TL.join_eq]
  exact join_ones cs
theorem sum_ones : ∀ cs : List Nat, ((cs.map fun c => (⟨#[c]⟩ : Str)).map (·.length)).sum = cs.length
  | [] => rfl
  | c :: r => by
    have ih := sum_ones r
    show 1 + ((r.map fun c => (⟨#[c]⟩ : Str)).map (·.length)).sum = r.length + 1
    rw [ih]; omega
theorem inV_strs (w : Str) (ws : List Str) : inV (.str w) (ws.map V.str) = decide (w ∈ ws) := by
  unfold inV
  induction ws with
  | nil => rfl
  | cons a r ih =>
    rw [List.map_cons, List.any_cons, ih]
    show ((a == w) || decide (w ∈ r)) = _
    by_cases h : a = w
    · subst h; simp
    · have : ¬ w = a := fun z => h z.symm
      simp [h, this]
theorem flat_strs (ws : List Str) : (ws.map V.str).all flatV = true := by
  rw [List.all_eq_true]
  intro x hx
  obtain ⟨w, _, rfl⟩ := List.mem_map.mp hx
  rfl
theorem pigeon {α : Type} [DecidableEq α] : ∀ (l ws : List α), l.Nodup → (∀ x ∈ l, x ∈ ws) → l.length ≤ ws.length
  | [], _, _, _ => Nat.zero_le _
  | a :: l, ws, nd, h => by
    have ha : a ∈ ws := h a List.mem_cons_self
    have hn : a ∉ l := (List.nodup_cons.mp nd).1
    have ih := pigeon l (ws.erase a) (List.nodup_cons.mp nd).2 fun x hx => by
      have hxa : x ≠ a := fun z => hn (z ▸ hx)
      exact (List.mem_erase_of_ne hxa).mpr (h x (List.mem_cons_of_mem _ hx))
    have := List.length_erase_of_mem ha
    have hp : 0 < ws.length := List.length_pos_of_mem ha
    simp only [List.length_cons]
    omega
/-- the stem and one letter -/
def stemL (s : Str) (n : Nat) : Str := s ++ ⟨#[97 + n]⟩
theorem stemL_inj {s : Str} {m n : Nat} (h : stemL s m = stemL s n) : m = n := by
  have e : (stemL s m).cps.toList = (stemL s n).cps.toList := by rw [h]
  unfold stemL at e
  change (s.cps ++ #[97 + m]).toList = (s.cps ++ #[97 + n]).toList at e
  simp at e
  omega
theorem stems_nodup (s : Str) (n : Nat) : ((List.range n).map (stemL s)).Nodup := by
  rw [List.nodup_iff_pairwise_ne, List.pairwise_map]
  exact (List.nodup_range (n := n)).imp fun h z => h (stemL_inj z)
theorem stem_nm {s : Str} {n : Nat} (h7 : s.length ≤ 7) (hs : ∀ c ∈ s.cps.toList, 97 ≤ c ∧ c ≤ 122) (hn : n < 26) : IsNm (stemL s n) := by
  have hl : (stemL s n).length = s.length + 1 := by
    unfold stemL
    change (s.cps ++ #[97 + n]).size = s.cps.size + 1
    simp
  refine ⟨by omega, by omega, fun c hc => ?_⟩
  unfold stemL at hc
  change c ∈ (s.cps ++ #[97 + n]).toList at hc
  simp at hc
  rcases hc with hc | hc
  · exact hs c (by simpa using hc)
  · omega
theorem cut7 (w : Str) : (cutS w none (some 7)).length ≤ 7 ∧ ∀ c ∈ (cutS w none (some 7)).cps.toList, c ∈ w.cps.toList := by
  have e1 : HT.sIx w.length w.length (some 7) = min 7 w.length := HT.sIx_nat _ _ 7
  unfold cutS
  rw [e1, HT.sIx_none, List.drop_zero, Nat.sub_zero]
  refine ⟨?_, fun c hc => ?_⟩
  · change (List.take (min 7 w.length) w.cps.toList).toArray.size ≤ 7
    simp
    omega
  · exact List.mem_of_mem_take (by simpa using hc)
/-- the ways through the loop: while the words were taken, up to k letters -/
theorem all_taken {s : Str} {ws : List Str} (hw : ws.length ≤ 25) (h : ∀ j, j < 26 → stemL s j ∈ ws) : False := by
  have := pigeon ((List.range 26).map (stemL s)) ws (stems_nodup s 26) fun x hx => by
    obtain ⟨j, hj, rfl⟩ := List.mem_map.mp hx
    exact h j (List.mem_range.mp hj)
  rw [List.length_map, List.length_range] at this
  omega
theorem atI_of {α : Type} {xs : List α} {r : Int} {x : α} (h0 : 0 ≤ r) (h : xs[r.toNat]? = some x) : atI xs r = some x := by
  have hl : r.toNat < xs.length := (List.getElem?_eq_some_iff.mp h).1
  unfold atI ixN
  rw [if_pos h0, if_pos (by omega)]
  exact h
end Fm

namespace Fm
open PySem PySem.Spec PyProof.Rows L2
theorem take_snoc {α : Type} {l : List α} {i : Nat} {x : α} (h : l[i]? = some x) : l.take (i + 1) = l.take i ++ [x] := by
  have hi : i < l.length := (List.getElem?_eq_some_iff.mp h).1
  rw [List.take_succ, h]; rfl
end Fm

namespace PySem
open PySem.Calls PyProof.Rows
/-- enumerate(v) without a start, v told by how its iterator begins -/
theorem fm_enum_new {v : Value} {o : Obj} {Hv : Heap → Prop} (bg : Begins v o Hv) :
    Meets (Builtin.«enumerate.__new__» ⟨[.type "enumerate", v], []⟩) (fun _ R s => Hv s.heap ∧ R (.ok (.ret (.ref (s.heap.push o).objs.size)))
      { s with heap := (s.heap.push o).push { cls := .type "enumerate", data := .fields #[.none, .bool false, .ref s.heap.objs.size, rawInt 0, .none, .none] } }) := by
  refine .of_wp fun prog w A R s hh => ?_
  rcases s with ⟨hp, gs, dr, tk, os⟩
  rcases hh with ⟨hv, hR⟩
  have sE := sub_enumerate
  have stp : ∀ {A1 : Around} {E1 : Value → Shared → Prop} {Q1 : Value → Shared → Prop}, Q1 (.ref hp.objs.size) ⟨hp.push o, gs, dr, tk, os⟩ → wpAny (model prog w) A1 (pyIter v) Q1 E1 ⟨hp, gs, dr, tk, os⟩ := fun q1 => bg.iter prog w _ _ ⟨hp, gs, dr, tk, os⟩ _ hv q1
  wp_walk using stp
  refine wpAny_stack_any fun _ => wpAny_pure ?_
  split
  · rename_i cc _ _ _ _ _
    cases (cc == Value.type "enumerate") <;> (wp_walk using stp; exact ⟨_, rfl, hR⟩)
  · wp_walk using stp
    exact ⟨_, rfl, hR⟩
theorem fm_call_enum {prog : Program} {w : World} {A : Around} {E : Value → Shared → Prop} {s : Shared} {v : Value} {o : Obj} {Hv : Heap → Prop} {Q : Value → Shared → Prop} (bg : Begins v o Hv) (h1 : Hv s.heap)
    (k : ∀ h', IsEnum h' (s.heap.objs.size + 1) s.heap.objs.size 0 .none → h'.get? s.heap.objs.size = some o → (∀ b u, s.heap.get? b = some u → h'.get? b = some u) → Q (.ref (s.heap.objs.size + 1)) { s with heap := h' }) :
    wpAny (model prog w) A (call (.type "enumerate") [v]) Q E s := by
  refine callType_new F.called_enumerate (by decide) (F.typeCall_enumerate_1 _) (F.newCall_enumerate_1 _) (fun obj => F.args_object_init_2 obj _) F.entry_enumerate_new (fm_enum_new bg) ⟨h1, ?_⟩
  have sz : (s.heap.push o).objs.size = s.heap.objs.size + 1 := Heap.size_push ..
  show _ ∧ _
  rw [sz]
  have ie : IsEnum ((s.heap.push o).push { cls := .type "enumerate", data := .fields #[.none, .bool false, .ref s.heap.objs.size, rawInt 0, .none, .none] }) (s.heap.objs.size + 1) s.heap.objs.size 0 .none := by
    have g := Heap.get?_push_size (s.heap.push o) (o := { cls := .type "enumerate", data := .fields #[.none, .bool false, .ref s.heap.objs.size, rawInt 0, .none, .none] }) rfl
    rw [sz] at g
    exact g
  exact ⟨⟨_, ie, rfl⟩, k _ ie (Heap.get?_push_of_some _ (Heap.get?_push_size _ bg.free)) fun b u e => Heap.get?_push_of_some _ (Heap.get?_push_of_some _ e)⟩
end PySem
namespace Fm
open PySem PySem.Spec PyProof.Rows L2
/-- enumerate(t), t a tuple: each item in a new pair -/
def ItE (K : PySem.W.Frag) (a : Addr) : It :=
  ⟨fun i H => ∃ (xs : List V) (x : V), SqT K H a xs ∧ xs[i]? = some x, fun i H v H' => ∃ T x, v = .ref T ∧ H T = none ∧ H' = upd H T (.tup [.int (i : Nat), x]) ∧ ∀ xs, SqT K H a xs → xs[i]? = some x, fun i H => ∃ xs : List V, SqT K H a xs ∧ xs.length = i⟩
theorem turn_enumT {P : Program} {w : World} {K : PySem.W.Frag} {elts : List Expr} {kk : Nat} {tpos : Pos} (a e it : Addr) (nea : a ≠ it) (nee : e ≠ it) (nae : e ≠ a) :
    Turn P w K (.Tuple elts kk tpos) (ItE K a) [e, it] e (fun i h => (∃ old, IsEnum h e it ((i : Nat) : Int) old) ∧ h.IsTupleIter it a i) where
  mem := by simp
  obj := fun i h st b hb => by
    obtain ⟨⟨old, he⟩, ⟨o, ho, hc, hd⟩⟩ := st
    rcases (show b = e ∨ b = it by simpa using hb) with rfl | rfl
    · exact ⟨_, he, fun v q => nomatch q⟩
    · exact ⟨o, ho, fun v q => by rw [hd] at q; cases q⟩
  keep := fun i h h' st k => let ⟨⟨old, he⟩, hi⟩ := st; ⟨⟨old, k e (by simp) _ he⟩, hi.at fun o q => k it (by simp) o q⟩
  item := by
    intro X hP hw hK hc i pins s σ H E I hf st hg
    subst hP hw hK
    obtain ⟨⟨old, he⟩, hit⟩ := st
    obtain ⟨xs, x, hq, hx⟩ := hg
    obtain ⟨its, rv, p, hz⟩ := I.tuple hq
    obtain ⟨u, hu, ru⟩ := rv.get hx
    have hel : e < s.heap.objs.size := Heap.lt_size he
    have hil : it < s.heap.objs.size := by obtain ⟨_, q, _⟩ := hit; exact Heap.lt_size q
    have hlt : i < its.toArray.size := by
      have := (List.getElem?_eq_some_iff.mp hu).1
      simpa using this
    have Dr := Draws.tuple (prog := X.prog) (w := X.w) (A := X.A.in1) (I.ok.hd hc) it a nea its.toArray
    refine wpAny_pyNext_enum_itemC Dr he ⟨hit, p⟩ hlt nee (by simp [nee, nae]) fun y h1 tk hy ho st1 hT hsz hk => ?_
    have ey : y = u := by
      have h2 : its[i]? = some y := by simpa using hy
      rw [hu] at h2
      exact (Option.some.inj h2).symm
    subst ey
    refine ⟨_, rfl, wpAny_letOwnedTupleGo_enum (s := { s with heap := h1, toks := tk + 1 }) ho fun h2 he2 sb => ?_⟩
    have hT2 : h2.get? s.heap.objs.size = some { cls := .type "tuple", data := .seq #[.int i tk, y] } := (sb.2 _ (Nat.ne_of_gt hel)).trans hT
    have nw : ObjOk X.prog X.w (upd H s.heap.objs.size (.tup [.int (i : Nat), x])) h2 s.heap.objs.size (.tup [.int (i : Nat), x]) :=
      ⟨by show 2 ≤ sizeLine; decide, [.int i tk, y], .cons ⟨_, rfl⟩ (.cons ru .nil), ⟨_, hT2, rfl, _, rfl⟩⟩
    have I1 : Inv X pins σ (upd H s.heap.objs.size (.tup [.int (i : Nat), x])) { s with heap := h2, toks := tk + 1 } :=
      I.turnedNew (ch := [e, it]) (fun b ob hb q => (sb.2 b (fun z => hb (by simp [z]))).trans (hk b ob (fun z => hb (by simp [z])) (fun z => hb (by simp [z])) q)) hf (Nat.le_refl _) nw
    refine ⟨.ref s.heap.objs.size, _, I1, rfl, ⟨_, x, rfl, I.hok.fresh (Nat.le_refl _), rfl, fun ys hy => by rw [I.tuple_inj hy hq]; exact hx⟩, ⟨⟨y, ?_⟩, st1.1.at fun o q => (sb.2 it (Ne.symm nee)).trans q⟩, fun b hb => ?_⟩
    · have e1 : ((i + 1 : Nat) : Int) = (i : Int) + 1 := by omega
      rw [e1]
      exact he2
    · have hb' : b < s.heap.objs.size := by
        rcases (show b = e ∨ b = it by simpa using hb) with rfl | rfl
        · exact hel
        · exact hil
      rw [upd_ne (Nat.ne_of_lt hb')]
      exact (hf b hb).1
  done := by
    intro X hP hw hK hc i pins s σ H E I hf st hg
    subst hP hw hK
    obtain ⟨⟨old, he⟩, hit⟩ := st
    obtain ⟨xs, hq, hx⟩ := hg
    obtain ⟨its, rv, p, hz⟩ := I.tuple hq
    obtain ⟨f0, f1, f2, f3, f4, f5⟩ := hf it (by simp)
    have hl := rv.length
    have Dr := Draws.tuple (prog := X.prog) (w := X.w) (A := X.A.in1) (I.ok.hd hc) it a nea its.toArray
    have ei : i = its.toArray.size := by simp; omega
    refine wpAny_pyNext_enum_endD Dr he ⟨by rw [← ei]; exact hit, p⟩ fun h1 eb => ⟨rfl, I.turned (t' := s.toks) (fun b o hb q => eb b o hb q) f0 f1 f3 f4 f5⟩
  self := fun A i s Q E st h => let ⟨⟨_, he⟩, _⟩ := st; wpAny_pyIter_enum he h
def iEnumT (K : PySem.W.Frag) (ta : TA) : TI := fun σ H R => ta σ H fun vs H1 => ∃ a xs, vs = [.ref a] ∧ SqT K H1 a xs ∧ R (ItE K a) H1
theorem pi_enumT {X : Cx} {e : Expr} {ta : TA} {p pos tpos : Pos} {elts : List Expr} {kk : Nat} (hg : Gl X "enumerate") (hm : X.mg "enumerate" = none) (ha : PA X [e] ta) (hs : starEach [e] X.env = [(false, eval e X.env)] := by rfl) :
    PI X (.Tuple elts kk tpos) (.Call (.Name "enumerate" p) [e] [] pos) (iEnumT X.K ta) := by
  refine ⟨fun pins s σ H R I h => ?_⟩
  refine Call_ (ld_blt I hg hm boot_enumerate (PyProof.Rows.callWith_type1 (thn (ha.run pos pins s σ H _ I h) fun us s1 ⟨vs, H1, I1, r1, q1⟩ => ?_) hs rfl))
  obtain ⟨a, xs, ex, hq, q⟩ := q1
  subst ex
  cases r1 with
  | cons r rr =>
    cases rr
    cases r
    obtain ⟨its, rv, p', hz⟩ := I1.tuple hq
    have hal : a < s1.heap.objs.size := by obtain ⟨_, q, _⟩ := p'; exact Heap.lt_size q
    refine fm_call_enum (begins_tuple a its.toArray) p' fun h' he ho hk => wpAny_pyIter_enum he ?_
    have I2 : Inv X pins σ H1 { s1 with heap := h' } := I1.kept (t' := s1.toks) hk
    refine ⟨s1.heap.objs.size + 1, [s1.heap.objs.size + 1, s1.heap.objs.size], _, _, H1, rfl, I2, turn_enumT a (s1.heap.objs.size + 1) s1.heap.objs.size (Nat.ne_of_lt hal) (Nat.succ_ne_self _) (Nat.ne_of_gt (Nat.lt_succ_of_lt hal)), ⟨⟨.none, he⟩, ⟨_, ho, rfl, rfl⟩⟩, fun b hb => ?_, q⟩
    have hle : s1.heap.objs.size ≤ b := by
      rcases (show b = s1.heap.objs.size + 1 ∨ b = s1.heap.objs.size by simpa using hb) with z | z
      · rw [z]; exact Nat.le_add_right _ _
      · rw [z]; exact Nat.le_refl _
    exact I1.fpOk hle (I1.hok.fresh hle)
/-- one of two ways to walk -/
theorem pi_or {X : Cx} {tg iter : Expr} {w1 w2 : TI} (h1 : PI X tg iter w1) (h2 : PI X tg iter w2) : PI X tg iter (fun σ H R => w1 σ H R ∨ w2 σ H R) := by
  refine ⟨fun pins s σ H R I h => ?_⟩
  rcases h with h | h
  · exact h1.run pins s σ H R I h
  · exact h2.run pins s σ H R I h
theorem walk_enumT {K : PySem.W.Frag} {a : Addr} {xs : List V} : Walk (ItE K a) xs.length (fun H => SqT K H a xs) (YPair (fun i => some (.int (i : Nat))) (fun i => xs[i]?)) := by
  refine ⟨fun i _ hi q => ⟨xs, xs[i], q, by simp [hi]⟩, fun _ q => ⟨xs, q, rfl⟩, fun i H v H' _ q y => ?_⟩
  obtain ⟨T, x, h1, h2, h3, h4⟩ := y
  exact ⟨T, .int (i : Nat), x, h1, h2, h3, rfl, h4 xs q⟩
end Fm

namespace Fm
open PySem PySem.Spec PyProof.Rows L2
/-! ### the package's own looks at things: rows, names, tables -/
noncomputable def bP (p : Prop) : Bool := @decide p (Classical.propDecidable p)
theorem bP_t {p : Prop} (h : p) : bP p = true := by unfold bP; exact @decide_eq_true p (Classical.propDecidable p) h
theorem bP_f {p : Prop} (h : ¬ p) : bP p = false := by unfold bP; exact @decide_eq_false p (Classical.propDecidable p) h
def NmD (d : PyData) : Prop := ∃ w, d = .str w ∧ IsNm w
def spIsRow : Sp := fun vs H Q _ => ∃ (S : Addr → Prop) (q : Bool) (n : Nat) (x : V) (d : PyData), vs = [x] ∧ Dt S q H n x d ∧ ∀ H', Kp [] H H' → Q (.bl (isRowD d)) H'
def spIsName : Sp := fun vs H Q _ => ∃ (S : Addr → Prop) (q : Bool) (n : Nat) (x : V) (d : PyData), vs = [x] ∧ Dt S q H n x d ∧ Q (.bl (bP (NmD d))) H
/-- a row of lo to hi unlike names -/
def NmsD (lo hi : Nat) (d : PyData) (ws : List Str) : Prop := (d = .list (ws.map .str) ∨ d = .tuple (ws.map .str)) ∧ (∀ w ∈ ws, IsNm w) ∧ ws.Nodup ∧ lo ≤ ws.length ∧ ws.length ≤ hi
def spAreNames : Sp := fun vs H Q _ => ∃ (S : Addr → Prop) (q : Bool) (n : Nat) (x : V) (d : PyData) (lo hi : Nat), vs = [x, .int lo, .int hi] ∧ Dt S q H n x d ∧ ∀ H', Kp [] H H' → Q (.bl (bP (∃ ws, NmsD lo hi d ws))) H'
def TabD (d : PyData) (t : Str × List Str) : Prop := ∃ e, d = .tuple [.str t.1, e] ∧ IsNm t.1 ∧ NmsD 1 4 e t.2
def spIsTable : Sp := fun vs H Q _ => ∃ (S : Addr → Prop) (q : Bool) (n : Nat) (x : V) (d : PyData), vs = [x] ∧ Dt S q H n x d ∧ ∀ H', Kp [] H H' → Q (.bl (bP (∃ t, TabD d t))) H'
theorem abc_mem {c : Nat} : c ∈ abc.cps.toList ↔ 97 ≤ c ∧ c ≤ 122 := by
  constructor
  · intro h
    obtain ⟨n, hn, e⟩ := List.getElem_of_mem h
    rw [abc_size] at hn
    have := abc_at n hn
    rw [List.getElem?_eq_getElem (by rw [abc_size]; exact hn)] at this
    have := Option.some.inj this
    omega
  · intro h
    have := abc_at (c - 97) (by omega)
    have e : 97 + (c - 97) = c := by omega
    rw [e] at this
    exact List.mem_of_getElem? this
theorem DtAll.take {S : Addr → Prop} {q : Bool} {H : Hp} : ∀ {n : Nat} {v : List V} {d : List PyData}, DtAll S q H n v d → ∀ i : Nat, DtAll S q H n (v.take i) (d.take i)
  | _, _, _, .nil, i => by rw [List.take_nil, List.take_nil]; exact .nil
  | _, _, _, .cons a b, 0 => .nil
  | _, _, _, .cons a b, i + 1 => .cons a (DtAll.take b i)
theorem DtAll.strs {S : Addr → Prop} {q : Bool} {H : Hp} {n : Nat} : ∀ {v : List V} {ws : List Str}, DtAll S q H n v (ws.map .str) → v = ws.map V.str
  | [], [], _ => rfl
  | _ :: _, [], h => by cases h
  | [], _ :: _, h => by cases h
  | x :: v, w :: ws, h => by
    cases h with
    | cons a b =>
      cases a
      rw [DtAll.strs b]; rfl
theorem strs_at {us : List Str} {i : Nat} {w : Str} (h : (us.map PyData.str)[i]? = some (.str w)) : us[i]? = some w := by
  rw [List.getElem?_map] at h
  cases e : us[i]? with
  | none => rw [e] at h; cases h
  | some y => rw [e] at h; cases h; rfl
theorem strs_inj : ∀ {us ws : List Str}, us.map PyData.str = ws.map PyData.str → us = ws
  | [], [], _ => rfl
  | [], _ :: _, h => by cases h
  | _ :: _, [], h => by cases h
  | a :: us, b :: ws, h => by
    rw [List.map_cons, List.map_cons] at h
    injection h with h1 h2
    injection h1 with h1
    rw [h1, strs_inj h2]
theorem strs_take {us ws : List Str} {i : Nat} (h : ws.map PyData.str = (us.map PyData.str).take i) : us.take i = ws := by
  rw [← List.map_take] at h
  exact (strs_inj h).symm
theorem cut_take {xs : List V} {i : Nat} (h : i ≤ xs.length) : cutV xs none (some ((i : Nat) : Int)) = xs.take i := by
  have e1 : HT.sIx xs.length xs.length (some ((i : Nat) : Int)) = min i xs.length := HT.sIx_nat _ _ i
  unfold cutV
  rw [e1, HT.sIx_none, List.drop_zero, Nat.sub_zero, Nat.min_eq_left h]
section
variable {P : Program} {w : World} {K : PySem.W.Frag} {mg : Str → Option Value} {base : Heap}
theorem cut_not {n i : Nat} (h : i < n) : ¬ (HT.sIx n 0 none = 0 ∧ HT.sIx n n (some ((i : Nat) : Int)) = n) := by
  rintro ⟨_, e⟩
  rw [HT.sIx_nat] at e
  omega
theorem ok_is_row (B : Bi mg) (D : Dfn K mg "is_row" s_is_row ["thing"]) : Has P w K mg base CX0 "is_row" ["thing"] 1 spIsRow := by
  refine D.has sc_is_row (fun vs H Q E h => ?_) (fun f cdv A outer s H vs Q E hr h => ?_)
  · obtain ⟨S, q, n, x, d, rfl, _⟩ := h; rfl
  · obtain ⟨S, q, n, x, d, rfl, hx, k⟩ := h
    refine ⟨_, (pss_one (ps_ret (pe_callB call_isiT (by rfl) B.isinstance (by decide +kernel) (pa_cons (pv 0) (pa_cons (pe_tup (pa_cons (pe_bltn (v := .ty "list") (by rfl) B.list (by decide +kernel) rfl) (pa_cons (pe_bltn (v := .ty "tuple") (by rfl) B.tuple (by decide +kernel) rfl) pa_nil))) pa_nil))))), ?_⟩
    exact ⟨_, rfl, (by show 2 ≤ sizeLine; decide), fun T hT => ⟨_, T, _, _, _, _, rfl, upd_same, .cons (.ty _) (.cons (.ty _) .nil), (hx.keep (Kp.new hT)).ty, kit_row _, k _ (Kp.new hT)⟩⟩
theorem ok_is_name {tk : Tok} (B : Bi mg) (L : mg "LETTERS_tables" = some (.str abc tk)) (D : Dfn K mg "is_name" s_is_name ["thing"]) : Has P w K mg base CX0 "is_name" ["thing"] 1 spIsName := by
  refine D.has sc_is_name (fun vs H Q E h => ?_) (fun f cdv A outer s H vs Q E hr h => ?_)
  · obtain ⟨S, q, n, x, d, rfl, _⟩ := h; rfl
  · obtain ⟨S, q, n, x, d, rfl, hx, k⟩ := h
    refine ⟨_, (pss_cons (ps_if (PW.pt (pw_or (pt_not (pt_val (pe_callB call_isi (by rfl) B.isinstance (by decide +kernel) (pa_cons (pv 0) (pa_cons (pe_bltn (v := .ty "str") (by rfl) B.str (by decide +kernel) rfl) pa_nil))))) (pw_or1 (pt_not (pt_chain op_le op_le pe_int (pe_callB call_len (by rfl) B.len PySem.boot_len (pa_cons (pv 0) pa_nil)) pe_int)))))
  (pss_one (ps_ret pe_bl))
  pss_nil)
  (pss_cons (ps_for PassesOwn.never rfl (pi_str (pv 0)) (pg_name (i := 1) sc_is_name.nd rfl (by first | exact Or.inl rfl | exact Or.inr rfl))
  (pss_one (ps_if (pt_cmpR op_notIn_sign (pv 1) (pe_glob (v := .str abc) rfl L ⟨_, rfl⟩) (by rfl))
  (pss_one (ps_ret pe_bl))
  pss_nil)))
  (pss_one (ps_ret pe_bl)))), ?_⟩
    refine ⟨_, rfl, _, _, _, _, _, rfl, .ty _, hx.ty, kit_ty (kb_str _), _, rfl, ?_⟩
    cases hx with
    | str z hz =>
      refine iteF ?_
      refine ⟨_, rfl, _, z.length, rfl, ⟨Nat.le_trans hz (by decide), rfl⟩, _, _, rfl, rfl, _, rfl, ?_⟩
      by_cases h1 : 1 ≤ z.length
      · rw [decide_eq_true (show (1 : Int) ≤ (z.length : Int) by omega)]
        refine iteT ?_
        refine ⟨_, _, rfl, rfl, _, rfl, ?_⟩
        by_cases h8 : z.length ≤ 8
        · rw [decide_eq_true (show (z.length : Int) ≤ 8 by omega)]
          refine iteF ?_
          refine ⟨_, rfl, z, rfl, ?_⟩
          refine for_it walk_str (fun i σ H' => (∃ v : Option V, σ = [some (.str z), v]) ∧ H' = H ∧ ∀ j c, j < i → z.cps[j]? = some c → 97 ≤ c ∧ c ≤ 122) ⟨⟨none, rfl⟩, rfl, fun j c h => absurd h (by omega)⟩ (fun _ _ _ _ _ => trivial) ?_ ?_
          · rintro i v σ H1 H2 hi ⟨⟨v0, rfl⟩, rfl, hj⟩ ⟨rfl, c, hc, rfl⟩
            refine ⟨_, rfl, c, abc, rfl, rfl, _, rfl, ?_⟩
            by_cases hm : c ∈ abc.cps.toList
            · rw [decide_eq_true hm]
              refine iteF ?_
              refine ⟨⟨_, rfl⟩, rfl, fun j c' h e => ?_⟩
              by_cases z' : j = i
              · rw [z', hc] at e
                cases e
                exact abc_mem.mp hm
              · exact hj j c' (by omega) e
            · rw [decide_eq_false hm]
              refine iteT ?_
              rw [bP_f] at k
              · exact k
              · rintro ⟨w', e, n1, n2, n3⟩
                cases e
                exact hm (abc_mem.mpr (n3 c (by
                  have : z.cps.toList[i]? = some c := by simpa using hc
                  exact List.mem_of_getElem? this)))
          · rintro σ H1 ⟨⟨v0, rfl⟩, rfl, hj⟩
            rw [bP_t] at k
            · exact k
            · refine ⟨z, rfl, h1, h8, fun c hc => ?_⟩
              obtain ⟨j, hj', e⟩ := List.getElem_of_mem hc
              have hj2 : j < z.cps.size := by simpa using hj'
              exact hj j c hj2 (by rw [← e]; simp [hj2])
        · rw [decide_eq_false (show ¬ (z.length : Int) ≤ 8 by omega)]
          refine iteT ?_
          rw [bP_f] at k
          · exact k
          · rintro ⟨w', e, n1, n2, n3⟩
            cases e
            exact h8 n2
      · rw [decide_eq_false (show ¬ (1 : Int) ≤ (z.length : Int) by omega)]
        refine iteF ?_
        refine ⟨_, rfl, ?_⟩
        refine iteT ?_
        rw [bP_f] at k
        · exact k
        · rintro ⟨w', e, n1, n2, n3⟩
          cases e
          exact h1 n1
    | _ =>
      refine iteT (iteT ?_)
      rw [bP_f] at k
      · exact k
      · rintro ⟨w', e, _⟩
        cases e
end
end Fm

namespace Fm
open PySem PySem.Spec PyProof.Rows L2
/-! ### an own error with one attribute -/
/-- what __init__(self, f) promises: self.f = f -/
def spErr (C : Addr) (f : Str) : Sp := fun vs H Q _ => ∃ (a : Addr) (y : V), vs = [.ref a, y] ∧ H a = some (exo a C none) ∧
  ∀ dx, H dx = none → dx ≠ a → Q .non (upd (upd H dx (exd dx [(f, y)])) a (exo a C (some dx)))
structure Err (P : Program) (w : World) (K : PySem.W.Frag) (mg : Str → Option Value) (base : Heap) (x : Str) (f : Str) (C : Addr) : Prop where
  oex : OexC K C
  gl : mg x = some (.ref C)
  ini : ∃ fI fd, PySem.W.findIn K (.ref C) "__init__" = some (some (.ref fI)) ∧ PySem.W.typeIn K (.ref fI) = some (.type "function") ∧ FnOk P w K mg base CX0 1 fI fd ["self", f] (spErr C f) ∧ Binds K fd ["self", f] []
  no : PySem.W.findIn K (.ref C) f = some none
  xf : XfC K C
theorem heap_err {H : Hp} {a d : Addr} {o1 o2 o3 o4 : HO} (ha : H a = none) (hd : d ≠ a) : upd (del (upd (upd (upd H a o1) d o2) a o3) a) d o4 = upd H d o4 := by
  funext b
  by_cases z : b = d
  · rw [z, upd_same, upd_same]
  · rw [upd_ne z, upd_ne z]
    by_cases y : b = a
    · rw [y, del_same, ha]
    · rw [del_ne y, upd_ne y, upd_ne z, upd_ne y]
/-- the end of C(v): the wish, told of the error's own new dict -/
theorem err_in {C : Addr} {f : Str} {v : V} {H1 : Hp} {a : Addr} {Q : XK} {E : XK} (ha : H1 a = none) (q : ∀ d, H1 d = none → Q (.ref C) (some d) (upd H1 d (.xd [(f, v)]))) :
    spErr C f [.ref a, v] (upd H1 a (exo a C none)) (fun u H2 => u = .non ∧ ∃ (d : Addr) (fs : List (Str × V)), H2 a = some (exo a C (some d)) ∧ H2 d = some (exd d fs) ∧ H1 d = none ∧ Q (.ref C) (some d) (upd (del H2 a) d (.xd fs))) E := by
  refine ⟨a, v, rfl, upd_same, fun dx hdx hne => ⟨rfl, dx, [(f, v)], upd_same, by rw [upd_ne hne, upd_same], ?_, ?_⟩⟩
  · rw [upd_ne hne] at hdx; exact hdx
  · rw [heap_err ha hne]
    rw [upd_ne hne] at hdx
    exact q dx hdx
section
variable {X : Cx}
/-- raise C(e) -/
theorem ps_raiseE {x f : Str} {C : Addr} {a : Expr} {ta : TA} {W : WX} {p pos pos2 : Pos} {k : Nat} (hc : X.calm = true) (T : Err X.prog X.w X.K X.mg X.base x f C) (hr : Room k X.A) (hk : 2 ≤ k) (tk : Takes X W) (ha : PA X [a] ta) (hg : Gl X x := by rfl)
    (hdb : (x == ("__debug__" : Str)) = false := by decide) (he : starEach (a :: []) X.env = (false, eval a X.env) :: starEach [] X.env := by rfl) (hpl : (backTo pos (starEach [] X.env)).any (·.1) = false := by rfl) :
    PS X (.Raise (some (.Call (.Name x p) [a] [] pos)) none pos2) (fun _ σ H => tMkO C (spErr C f) [] ta σ H fun cls d H' => W cls d σ H') := by
  obtain ⟨fI, fd, h1, h2, F, b⟩ := T.ini
  exact ps_raise hc tk (pmk_oex (k := 1) T.oex h1 h2 F (hr.mono hk) b .nil (fun _ _ _ _ _ _ _ z => z.elim) hg T.gl ha hdb he hpl)
end
section
variable {P : Program} {w : World} {K : PySem.W.Frag} {mg : Str → Option Value} {base : Heap}
/-- __init__ of an error whose body is self.f = f -/
theorem ok_err {f : Str} {qual : Str} {C fI : Addr} {fd : FuncData} {st : Stmt} (F : Fun K "__init__" qual st fI fd) (S : FnScope ["self", f] ["self", f] (defScope st)) (ox : OexC K C) (no : PySem.W.findIn K (.ref C) f = some none)
    (hb : ∀ (X : Cx), X.N = ([("self" : Str), f] : List Str) → X.env.scope = defScope st → PSs X (defBody st) (tOst X.K f (tVar 0) (tVar 1))) : FnOk P w K mg base CX0 1 fI fd ["self", f] (spErr C f) := by
  refine F.ok S (fun vs H Q E h => ?_) (fun cdv A outer s H vs Q E hr h => ⟨_, hb _ rfl rfl, ?_⟩)
  · obtain ⟨a, y, rfl, _⟩ := h; rfl
  · obtain ⟨a, y, rfl, ha, k⟩ := h
    exact ⟨_, rfl, _, rfl, a, C, rfl, ox, no, .inl ⟨ha, fun dx h1 h2 => k dx h1 h2⟩⟩
end
end Fm

namespace Fm
open PySem PySem.Spec PyProof.Rows L2
/-! ### data of tuples alone: nothing changes it -/
abbrev TupH (H : Hp) : Addr → Prop := fun a => ∃ xs, H a = some (.tup xs)
abbrev Im (H : Hp) (n : Nat) (v : V) (d : PyData) : Prop := Dt (TupH H) true H n v d
abbrev ImAll (H : Hp) (n : Nat) (v : List V) (d : List PyData) : Prop := DtAll (TupH H) true H n v d
theorem tupH_keep {ms : List Addr} {H H' : Hp} (k : Kp ms H H') (a : Addr) (o : HO) (s : TupH H a) (e : H a = some o) : H' a = some o := by
  obtain ⟨xs, h⟩ := s
  rw [h] at e
  cases e
  exact k.tp a xs h
theorem Im.kp {ms : List Addr} {H H' : Hp} (k : Kp ms H H') {n : Nat} {v : V} {d : PyData} (h : Im H n v d) : Im H' n v d := Dt.keepS (fun a o s e => tupH_keep k a o s e) (fun a ⟨xs, h⟩ => ⟨xs, k.tp a xs h⟩) h
theorem ImAll.kp {ms : List Addr} {H H' : Hp} (k : Kp ms H H') {n : Nat} {v : List V} {d : List PyData} (h : ImAll H n v d) : ImAll H' n v d := DtAll.keepS (fun a o s e => tupH_keep k a o s e) (fun a ⟨xs, h⟩ => ⟨xs, k.tp a xs h⟩) h
/-! ### tables -/
def dTab (t : Str × List Str) : PyData := .tuple [.str t.1, .tuple (t.2.map .str)]
def dTabs (tbs : List (Str × List Str)) : PyData := .tuple (tbs.map dTab)
inductive TabsD : List PyData → List (Str × List Str) → Prop
  | nil : TabsD [] []
  | cons {d : PyData} {ds : List PyData} {t : Str × List Str} {ts : List (Str × List Str)} : TabD d t → TabsD ds ts → TabsD (d :: ds) (t :: ts)
theorem TabsD.len : ∀ {ds : List PyData} {ts : List (Str × List Str)}, TabsD ds ts → ds.length = ts.length
  | _, _, .nil => rfl
  | _, _, .cons _ h => congrArg (· + 1) h.len
theorem TabsD.snoc : ∀ {ds : List PyData} {ts : List (Str × List Str)} {d : PyData} {t : Str × List Str}, TabsD ds ts → TabD d t → TabsD (ds ++ [d]) (ts ++ [t])
  | _, _, _, _, .nil, h => .cons h .nil
  | _, _, _, _, .cons a b, h => .cons a (b.snoc h)
theorem TabsD.take : ∀ {ds : List PyData} {ts : List (Str × List Str)}, TabsD ds ts → ∀ i : Nat, TabsD (ds.take i) (ts.take i)
  | _, _, .nil, i => by rw [List.take_nil, List.take_nil]; exact .nil
  | _, _, .cons a b, 0 => .nil
  | _, _, .cons a b, i + 1 => .cons a (b.take i)
theorem TabsD.get : ∀ {ds : List PyData} {ts : List (Str × List Str)}, TabsD ds ts → ∀ {i : Nat} {d : PyData}, ds[i]? = some d → ∃ t, ts[i]? = some t ∧ TabD d t
  | _, _, .cons a b, 0, d, h => by cases h; exact ⟨_, rfl, a⟩
  | _, _, .cons a b, i + 1, d, h => b.get (i := i) h
theorem nms_inj {lo hi : Nat} {d : PyData} {ws ws' : List Str} (h : NmsD lo hi d ws) (h' : NmsD lo hi d ws') : ws = ws' := by
  rcases h.1 with e | e <;> rcases h'.1 with e' | e' <;> rw [e] at e'
  · exact strs_inj (PyData.list.inj e')
  · cases e'
  · cases e'
  · exact strs_inj (PyData.tuple.inj e')
theorem TabD.inj {d : PyData} {t t' : Str × List Str} (h : TabD d t) (h' : TabD d t') : t = t' := by
  obtain ⟨e, rfl, _, n⟩ := h
  obtain ⟨e', q, _, n'⟩ := h'
  injection q with q
  injection q with q1 q2
  injection q2 with q2 q3
  injection q1 with q1
  subst q2
  exact Prod.ext q1 (nms_inj n n')
theorem TabsD.inj : ∀ {ds : List PyData} {ts ts' : List (Str × List Str)}, TabsD ds ts → TabsD ds ts' → ts = ts'
  | _, _, _, .nil, .nil => rfl
  | _, _, _, .cons a b, .cons a' b' => by rw [a.inj a', b.inj b']
/-- the things of a row -/
def RowD (d : PyData) (ds : List PyData) : Prop := d = .list ds ∨ d = .tuple ds
def ShpD (d : PyData) (tbs : List (Str × List Str)) : Prop := ∃ ds, RowD d ds ∧ 1 ≤ ds.length ∧ ds.length ≤ 5 ∧ TabsD ds tbs ∧ (tbs.map (·.1)).Nodup
/-- the first thing that is wrong -/
def ShpBad (d : PyData) (i : Int) : Prop := (i = -1 ∧ ¬ ∃ ds, RowD d ds ∧ 1 ≤ ds.length ∧ ds.length ≤ 5) ∨
  ∃ ds k e tbs, RowD d ds ∧ 1 ≤ ds.length ∧ ds.length ≤ 5 ∧ i = ((k : Nat) : Int) ∧ ds[k]? = some e ∧ TabsD (ds.take k) tbs ∧ (tbs.map (·.1)).Nodup ∧ ¬ ∃ t, TabD e t ∧ t.1 ∉ tbs.map (·.1)
def ShapeAt (C : Addr) (H : Hp) (p : Addr) (tbs : List (Str × List Str)) : Prop := ∃ dx v, H p = some (.ins C dx [("tables", v)]) ∧ Im H 3 v (dTabs tbs)
theorem ShapeAt.kp {C : Addr} {H H' : Hp} {p : Addr} {tbs : List (Str × List Str)} {ms : List Addr} (h : ShapeAt C H p tbs) (k : Kp ms H H') (hp : p ∉ ms) : ShapeAt C H' p tbs := by
  obtain ⟨dx, v, h1, h2⟩ := h
  exact ⟨dx, v, k.at_ _ _ h1 hp, Im.kp k h2⟩
def spShapeI (C CE : Addr) : Sp := fun vs H Q E => ∃ (p dx : Addr) (S : Addr → Prop) (q : Bool) (n : Nat) (x : V) (d : PyData), vs = [.ref p, x] ∧ H p = some (.ins C dx []) ∧ Dt S q H n x d ∧
  (∀ tbs H', ShpD d tbs → Kp [p] H H' → ShapeAt C H' p tbs → Q .non H') ∧
  (∀ (i : Int) (dd : Addr) (H' : Hp), ShpBad d i → Kp [] H H' → H dd = none → H' dd = some (.xd [("at", .int i)]) → E (.ref CE) (some dd) H')
/-- what the top has of the class Shape -/
structure ShCls (K : PySem.W.Frag) (mg : Str → Option Value) (C : Addr) : Prop where
  cl : Cls K C
  nT : NoAttr K C "tables"
  mgC : mg "Shape" = some (.ref C)
theorem dtAll_strs {S : Addr → Prop} {q : Bool} {H : Hp} {n : Nat} : ∀ {ws : List Str}, (∀ w ∈ ws, w.length ≤ 1000000) → DtAll S q H n (ws.map V.str) (ws.map PyData.str)
  | [], _ => .nil
  | w :: ws, h => .cons (.str w (h w List.mem_cons_self)) (dtAll_strs fun x hx => h x (List.mem_cons_of_mem _ hx))
theorem Same.dt {S : Addr → Prop} {q : Bool} {H H' : Hp} {n : Nat} {v : V} {d : PyData} (h : Dt S q H n v d) (k : Same H H') (kt : ∀ a xs, H a = some (.tup xs) → H' a = some (.tup xs)) : Dt S q H' n v d := h.keep ⟨fun a o e _ => k a o e, kt⟩
section
variable {P : Program} {w : World} {K : PySem.W.Frag} {mg : Str → Option Value} {base : Heap}
end
end Fm

namespace Fm
open PySem PySem.Spec PyProof.Rows L2
/-! ### tables as data: equal as Python sees them -/
def GoodT (t : Str × List Str) : Prop := IsNm t.1 ∧ (∀ w ∈ t.2, IsNm w) ∧ t.2.Nodup ∧ 1 ≤ t.2.length ∧ t.2.length ≤ 4
def GoodTs (tbs : List (Str × List Str)) : Prop := (∀ t ∈ tbs, GoodT t) ∧ (tbs.map (·.1)).Nodup ∧ 1 ≤ tbs.length ∧ tbs.length ≤ 5
theorem TabD.good {d : PyData} {t : Str × List Str} (h : TabD d t) : GoodT t := by
  obtain ⟨e, _, n, m⟩ := h
  exact ⟨n, m.2.1, m.2.2.1, m.2.2.2.1, m.2.2.2.2⟩
theorem TabsD.good : ∀ {ds : List PyData} {ts : List (Str × List Str)}, TabsD ds ts → ∀ t ∈ ts, GoodT t
  | _, _, .cons a b, t, h => by
    rcases List.mem_cons.mp h with rfl | h
    · exact a.good
    · exact b.good t h
theorem ShpD.good {d : PyData} {ts : List (Str × List Str)} (h : ShpD d ts) : GoodTs ts := by
  obtain ⟨ds, _, l1, l5, t1, t2⟩ := h
  exact ⟨t1.good, t2, by rw [← t1.len]; exact l1, by rw [← t1.len]; exact l5⟩
theorem eqv_strs : ∀ ws vs : List Str, PyData.eqvAll (ws.map .str) (vs.map .str) = decide (ws = vs)
  | [], [] => by simp [PyData.eqvAll]
  | [], _ :: _ => by simp [PyData.eqvAll]
  | _ :: _, [] => by simp [PyData.eqvAll]
  | w :: ws, v :: vs => by
    simp only [List.map_cons, PyData.eqvAll, PyData.eqv, eqv_strs ws vs]
    by_cases h : w = v
    · subst h; simp
    · simp [h]
theorem eqv_tab (t u : Str × List Str) : PyData.eqv (dTab t) (dTab u) = decide (t = u) := by
  simp only [dTab, PyData.eqv, PyData.eqvAll, eqv_strs]
  by_cases h : t.1 = u.1
  · by_cases h' : t.2 = u.2
    · have : t = u := Prod.ext h h'
      subst this; simp
    · have : t ≠ u := fun z => h' (by rw [z])
      simp [h', this]
  · have : t ≠ u := fun z => h (by rw [z])
    simp [h, this]
theorem eqv_tabsL : ∀ ts us : List (Str × List Str), PyData.eqvAll (ts.map dTab) (us.map dTab) = decide (ts = us)
  | [], [] => by simp [PyData.eqvAll]
  | [], _ :: _ => by simp [PyData.eqvAll]
  | _ :: _, [] => by simp [PyData.eqvAll]
  | t :: ts, u :: us => by
    simp only [List.map_cons, PyData.eqvAll, eqv_tab, eqv_tabsL ts us]
    by_cases h : t = u
    · subst h; simp
    · simp [h]
theorem eqv_tabs (ts us : List (Str × List Str)) : PyData.eqv (dTabs ts) (dTabs us) = decide (ts = us) := by
  simp only [dTabs, PyData.eqv, eqv_tabsL]
theorem strOk_nm {w : Str} (h : IsNm w) : PyData.strOk w = true := by
  unfold PyData.strOk
  rw [Array.all_eq_true']
  intro c hc
  have := h.2.2 c (by simpa using hc)
  simp
  omega
theorem lay_strs : ∀ {ws : List Str}, (∀ w ∈ ws, IsNm w) → PyData.canLayAll0 (ws.map .str) = true
  | [], _ => by simp [PyData.canLayAll0]
  | w :: ws, h => by
    simp only [List.map_cons, PyData.canLayAll0, PyData.canLay0, strOk_nm (h w List.mem_cons_self), lay_strs fun x hx => h x (List.mem_cons_of_mem _ hx), Bool.and_self]
theorem lay_tabs : ∀ {ts : List (Str × List Str)}, (∀ t ∈ ts, GoodT t) → PyData.canLayAll0 (ts.map dTab) = true
  | [], _ => by simp [PyData.canLayAll0]
  | t :: ts, h => by
    have g := h t List.mem_cons_self
    simp only [List.map_cons, PyData.canLayAll0, dTab, PyData.canLay0, strOk_nm g.1, lay_strs g.2.1, lay_tabs fun x hx => h x (List.mem_cons_of_mem _ hx), Bool.and_self]
theorem dep_strs : ∀ ws : List Str, PyData.depthAll (ws.map .str) = 0
  | [] => by simp [PyData.depthAll]
  | w :: ws => by simp [PyData.depthAll, PyData.depth, dep_strs ws]
theorem dep_tabs : ∀ ts : List (Str × List Str), PyData.depthAll (ts.map dTab) ≤ 2
  | [] => by simp [PyData.depthAll]
  | t :: ts => by
    have := dep_tabs ts
    simp only [List.map_cons, PyData.depthAll, dTab, PyData.depth, dep_strs]
    omega
theorem shaped_tabs {ts : List (Str × List Str)} (h : ∀ t ∈ ts, GoodT t) : SeqAt.shaped (dTabs ts) = true := by
  have := dep_tabs ts
  unfold SeqAt.shaped
  simp only [dTabs, PyData.canLay0, PyData.depth, lay_tabs h, Bool.true_and, decide_eq_true_eq]
  omega
mutual
theorem Dt.dp {S : Addr → Prop} {q : Bool} {H : Hp} {K : PySem.W.Frag} : ∀ {n : Nat} {v : V} {d : PyData}, Dt S q H n v d → d.canLay0 = true → Dp K H v d
  | _, _, _, .non, _ => .non
  | _, _, _, .bl b, _ => .bl b
  | _, _, _, .int b, _ => .int b
  | _, _, _, .str b h, _ => .str b
  | _, _, _, .lst r l a, h => .lst (.inl r) (DtAll.dp a (by simpa [PyData.canLay0] using h))
  | _, _, _, .tup r l a, h => .tup (.inl (.inl r)) (DtAll.dp a (by simpa [PyData.canLay0] using h))
  | _, _, _, .dic r l a, h => by simp [PyData.canLay0] at h
theorem DtAll.dp {S : Addr → Prop} {q : Bool} {H : Hp} {K : PySem.W.Frag} : ∀ {n : Nat} {v : List V} {d : List PyData}, DtAll S q H n v d → PyData.canLayAll0 d = true → DpAll K H v d
  | _, _, _, .nil, _ => .nil
  | _, _, _, .cons a b, h => by
    have h' := Bool.and_eq_true_iff.mp (show (_ && _) = true by simpa only [PyData.canLayAll0] using h)
    exact .cons (Dt.dp a h'.1) (DtAll.dp b h'.2)
end
theorem lay_dTabs {ts : List (Str × List Str)} (h : ∀ t ∈ ts, GoodT t) : (dTabs ts).canLay0 = true := by
  simp only [dTabs, PyData.canLay0, lay_tabs h]
/-- an instance's class, as isinstance asks of it -/
structure InsX (K : PySem.W.Frag) (C : Addr) : Prop where
  cl : Cls K C
  ha : PySem.W.findIn K (.ref C) "__class__" = some (some (.builtin "object.__class__"))
  hn : PySem.W.specialIn K (.builtin "object.__class__") "__get__" = some (some (.builtin "getset_descriptor.__get__"))
  htk : PySem.W.takesIn K (.builtin "object.__class__") = some true
  hm : PySem.W.mroIn K C (.type "object") = some true
  dat : ∀ T ∈ ["NoneType", "bool", "int", "str", "list", "tuple", "dict"], PySem.W.kitOne K (.type T) (.ref C) = some false
theorem InsX.ty {K : PySem.W.Frag} {C : Addr} (T : InsX K C) {H : Hp} {a dx : Addr} {fs : List (Str × V)} (e : H a = some (.ins C dx fs)) : TyX K H (.ref a) (.ref C) := .base (.ins e T.cl T.ha T.hn T.htk T.hm)
theorem InsX.datD {K : PySem.W.Frag} {C : Addr} (T : InsX K C) (d : PyData) : PySem.W.kitOne K (.type (tyS d)) (.ref C) = some false := T.dat _ (by cases d <;> simp [tyS])
theorem kit_self {K : PySem.W.Frag} {C : Addr} : PySem.W.kitOne K (.ref C) (.ref C) = some true := by
  unfold PySem.W.kitOne
  rw [if_pos (by simp)]
def spShEq (C : Addr) : Sp := fun vs H Q _ => ∃ (p : Addr) (y : V) (tbs : List (Str × List Str)), vs = [.ref p, y] ∧ ShapeAt C H p tbs ∧ (∀ t ∈ tbs, GoodT t) ∧
  ((∃ p' us, y = .ref p' ∧ ShapeAt C H p' us ∧ (∀ t ∈ us, GoodT t) ∧ Q (.bl (decide (tbs = us))) H) ∨ ∃ S q n d, Dt S q H n y d ∧ Q (.bl false) H)
def spFields (C CE : Addr) : Sp := fun vs H Q E => ∃ (p : Addr) (S : Addr → Prop) (q : Bool) (n : Nat) (x : V) (d : PyData) (tbs : List (Str × List Str)), vs = [.ref p, x] ∧ ShapeAt C H p tbs ∧ (tbs.map (·.1)).Nodup ∧ Dt S q H n x d ∧
  (∀ t ∈ tbs, d = .str t.1 → ∀ a : Addr, Im H 2 (.ref a) (.tuple (t.2.map .str)) → Q (.ref a) H) ∧
  ((∀ t ∈ tbs, d ≠ .str t.1) → ∀ (dd : Addr) (H' : Hp), Kp [] H H' → H dd = none → H' dd = some (.xd [("value", x)]) → E (.ref CE) (some dd) H')
theorem Im.tab {H : Hp} {n : Nat} {v : V} {t : Str × List Str} (h : Im H (n + 2) v (dTab t)) : ∃ a b, v = .ref a ∧ H a = some (.tup [.str t.1, .ref b]) ∧ Im H (n + 1) (.ref b) (.tuple (t.2.map .str)) := by
  cases h with
  | tup r l a =>
    cases a with
    | cons a0 a =>
      cases a with
      | cons a1 a =>
        cases a
        cases a0
        cases id a1 with
        | tup r1 l1 a11 => exact ⟨_, _, rfl, r, a1⟩
end Fm

namespace Fm
open PySem PySem.Spec PyProof.Rows L2
theorem DtAll.set {S : Addr → Prop} {q : Bool} {H : Hp} : ∀ {n : Nat} {v : List V} {d : List PyData}, DtAll S q H n v d → ∀ (i : Nat) {x : V} {e : PyData}, Dt S q H n x e → DtAll S q H n (v.set i x) (d.set i e)
  | _, _, _, .nil, i, _, _, _ => .nil
  | _, _, _, .cons a b, 0, _, _, h => .cons h b
  | _, _, _, .cons a b, i + 1, _, _, h => .cons a (DtAll.set b i h)
theorem catA_in {K : PySem.W.Frag} {H : Hp} {a b : Addr} {xs ys : List V} {Q : VK} (ha : H a = some (.tup xs)) (hb : H b = some (.tup ys)) (hl : xs.length + ys.length ≤ sizeLine) (q : ∀ r H', Kp [] H H' → H' r = some (.tup (xs ++ ys)) → Q (.ref r) H') : rCatA K (.ref a) (.ref b) H Q := by
  refine ⟨a, b, xs, ys, rfl, rfl, .inl (.inl ha), .inl (.inl hb), hl, fun e => ?_, fun _ e => ?_, fun _ _ p hp => q p _ (Kp.new hp) upd_same⟩
  · exact q b H (Kp.refl _) (by rw [e, List.nil_append]; exact hb)
  · exact q a H (Kp.refl _) (by rw [e, List.append_nil]; exact ha)
theorem cutN_drop {xs : List V} {i : Nat} (h : i ≤ xs.length) : cutV xs (some ((i : Nat) : Int)) none = xs.drop i := by
  unfold cutV
  rw [show HT.sIx xs.length 0 (some ((i : Nat) : Int)) = min i xs.length from HT.sIx_nat _ _ i, HT.sIx_none, Nat.min_eq_left h]
  exact List.take_of_length_le (by rw [List.length_drop]; omega)
theorem ixN_nat {n j : Nat} (h : j < n) : ixN n (j : Int) = some j := by
  unfold ixN
  rw [if_pos (by omega), if_pos (by omega), Int.toNat_natCast]
theorem atI_nat {α : Type} {xs : List α} {k : Nat} {x : α} (h : xs[k]? = some x) : atI xs (k : Int) = some x := atI_of (by omega) (by simpa using h)
def spInt : Sp := fun vs H Q _ => ∃ (S : Addr → Prop) (q : Bool) (n : Nat) (x : V) (d : PyData), vs = [x] ∧ Dt S q H n x d ∧ Q (.bl (isI d && !isB d)) H
def RwAt (H : Hp) (p : Addr) (xs : List V) : Prop := Rd H p (.lst xs) ∨ H p = some (.tup xs)
theorem RwAt.keep {H H' : Hp} {p : Addr} {xs : List V} (h : RwAt H p xs) (k : Kp [] H H') : RwAt H' p xs := h.elim (fun h => .inl (k.rd (fun z => nomatch z) h)) (fun h => .inr (k.tp _ _ h))
theorem RwAt.sq {H : Hp} {K : PySem.W.Frag} {p : Addr} {xs : List V} (h : RwAt H p xs) : SqL K H p xs ∨ SqT K H p xs := h.elim (fun h => .inl (.inl h)) (fun h => .inr (.inl (.inl h)))
theorem RwAt.len {H : Hp} {K : PySem.W.Frag} {p : Addr} {xs : List V} (h : RwAt H p xs) : LenV K (.ref p) H xs.length := h.elim (fun h => .inl ⟨_, .inl h, rfl⟩) (fun h => .inr ⟨_, .inl (.inl h), rfl⟩)
theorem RwAt.ix {H : Hp} {K : PySem.W.Frag} {p : Addr} {xs : List V} {i : Nat} {v : V} {Q : VK} (h : RwAt H p xs) (e : xs[i]? = some v) (q : Q v H) : rIxL K (.ref p) (.int (i : Int)) H Q ∨ rIxT K (.ref p) (.int (i : Int)) H Q :=
  h.elim (fun h => .inl ⟨p, xs, _, v, rfl, rfl, .inl h, atI_nat e, q⟩) (fun h => .inr ⟨p, xs, _, v, rfl, rfl, .inl (.inl h), atI_nat e, q⟩)
theorem Dt.row {S : Addr → Prop} {q : Bool} {H : Hp} {n : Nat} {x : V} {d : PyData} (h : Dt S q H n x d) (hd : isRowD d = true) : ∃ ds m p xs, x = .ref p ∧ n = m + 1 ∧ RwAt H p xs ∧ xs.length ≤ 1000000 ∧ S p ∧ DtAll S q H m xs ds ∧ ((d = .list ds ∧ isT d = false ∧ Rd H p (.lst xs)) ∨ (d = .tuple ds ∧ isT d = true ∧ H p = some (.tup xs))) := by
  cases h with
  | @lst m p xs ds rx lx ax => exact ⟨ds, m, p, xs, rfl, rfl, .inl rx, lx.1, lx.2, ax, .inl ⟨rfl, rfl, rx⟩⟩
  | @tup m p xs ds rx lx ax => exact ⟨ds, m, p, xs, rfl, rfl, .inr rx, lx.1, lx.2, ax, .inr ⟨rfl, rfl, rx⟩⟩
  | _ => cases hd
end Fm

namespace Fm
open PySem PySem.Spec PyProof.Rows L2
/-! ### values and rows of values -/
def InV (n : Int) : Prop := -1000000000 ≤ n ∧ n ≤ 1000000000
def VlD (d : PyData) : Prop := ∃ n, d = .int n ∧ InV n
def spIsVal : Sp := fun vs H Q _ => ∃ (S : Addr → Prop) (q : Bool) (n : Nat) (x : V) (d : PyData), vs = [x] ∧ Dt S q H n x d ∧ Q (.bl (bP (VlD d))) H
/-- a row of many values -/
def ValsD (many : Nat) (d : PyData) (ns : List Int) : Prop := RowD d (ns.map .int) ∧ ns.length = many ∧ ∀ n ∈ ns, InV n
def spAreVals : Sp := fun vs H Q _ => ∃ (S : Addr → Prop) (q : Bool) (n : Nat) (x : V) (d : PyData) (many : Nat), vs = [x, .int many] ∧ Dt S q H n x d ∧ ∀ H', Kp [] H H' → Q (.bl (bP (∃ ns, ValsD many d ns))) H'
theorem ints_map_inj : ∀ {a b : List Int}, a.map PyData.int = b.map PyData.int → a = b
  | [], [], _ => rfl
  | [], _ :: _, h => by cases h
  | _ :: _, [], h => by cases h
  | x :: a, y :: b, h => by
    injection h with h1 h2
    injection h1 with h1
    rw [h1, ints_map_inj h2]
theorem DtAll.ints {S : Addr → Prop} {q : Bool} {H : Hp} {n : Nat} : ∀ {v : List V} {ws : List Int}, DtAll S q H n v (ws.map .int) → v = ws.map V.int
  | [], [], _ => rfl
  | _ :: _, [], h => by cases h
  | [], _ :: _, h => by cases h
  | x :: v, w :: ws, h => by
    cases h with
    | cons a b =>
      cases a
      rw [DtAll.ints b]; rfl
section
variable {P : Program} {w : World} {K : PySem.W.Frag} {mg : Str → Option Value} {base : Heap}
theorem ok_is_integer (B : Bi mg) (D : Dfn K mg "is_integer" s_is_integer ["thing"]) : Has P w K mg base CX0 "is_integer" ["thing"] 1 spInt := by
  refine D.has sc_is_integer (fun vs H Q E h => ?_) (fun f cdv A outer s H vs Q E hr h => ?_)
  · obtain ⟨S, q, n, x, d, rfl, _⟩ := h; rfl
  · obtain ⟨S, q, n, x, d, rfl, hx, k⟩ := h
    refine ⟨_, (pss_one (ps_ret (pe_and (pe_callB call_isi (by rfl) B.isinstance (by decide +kernel) (pa_cons (pv 0) (pa_cons (pe_bltn (v := .ty "int") (by rfl) B.int (by decide +kernel) rfl) pa_nil))) (pe_one (pe_not (pe_callB call_isi (by rfl) B.isinstance (by decide +kernel) (pa_cons (pv 0) (pa_cons (pe_bltn (v := .ty "bool") (by rfl) B.bool (by decide +kernel) rfl) pa_nil)))))))), ?_⟩
    refine ⟨_, rfl, _, _, _, _, _, rfl, .ty _, hx.ty, kit_ty (kb_int _), _, rfl, ?_⟩
    cases hi : isI d with
    | false => rw [hi] at k; exact iteF k
    | true => rw [hi] at k; exact iteT ⟨_, rfl, _, _, _, _, _, rfl, .ty _, hx.ty, kit_ty (kb_bool _), _, rfl, k⟩
theorem ok_is_value {tk : Tok} (B : Bi mg) (M : mg "MOST_VALUE" = some (.int 1000000000 tk)) (D : Dfn K mg "is_value" s_is_value ["thing"]) (G_is_integer : Has P w K mg base CX0 "is_integer" ["thing"] 1 spInt) : Has P w K mg base CX0 "is_value" ["thing"] 2 spIsVal := by
  refine D.has sc_is_value (fun vs H Q E h => ?_) (fun f cdv A outer s H vs Q E hr h => ?_)
  · obtain ⟨S, q, n, x, d, rfl, _⟩ := h; rfl
  · obtain ⟨S, q, n, x, d, rfl, hx, k⟩ := h
    refine ⟨_, (pss_one (ps_ret (pe_and (pe_has G_is_integer (hr.mono (by omega)) (pa_cons (pv 0) pa_nil)) (pe_one (pe_chain op_le op_le (pe_un un_neg (pe_glob (v := .int 1000000000) rfl M ⟨_, rfl⟩)) (pv 0) (pe_glob (v := .int 1000000000) rfl M ⟨_, rfl⟩)))))), ?_⟩
    refine ⟨_, rfl, S, q, n, x, d, rfl, hx, _, rfl, ?_⟩
    cases hi : (isI d && !isB d) with
    | false =>
      refine iteF ?_
      rw [bP_f] at k
      · exact k
      · rintro ⟨n, rfl, _⟩; cases hi
    | true =>
      refine iteT ?_
      cases hx with
      | int i =>
        refine ⟨_, rfl, _, rfl, _, _, rfl, rfl, ?_⟩
        refine ⟨_, rfl, ?_⟩
        refine ite2 (fun h1 => ?_) (fun h1 => ?_)
        · have h1 := of_decide_eq_true h1
          refine ⟨_, _, rfl, rfl, ?_⟩
          by_cases h2 : i ≤ 1000000000
          · rw [bP_t ⟨i, rfl, h1, h2⟩] at k
            show Q (V.bl (decide (i ≤ 1000000000))) H
            rw [decide_eq_true h2]; exact k
          · show Q (V.bl (decide (i ≤ 1000000000))) H
            rw [decide_eq_false h2]
            rw [bP_f] at k
            · exact k
            · rintro ⟨n, e, _, h3⟩; cases e; exact h2 h3
        · have h1 : ¬ (-1000000000 ≤ i) := fun h => h1 (decide_eq_true h)
          rw [bP_f] at k
          · exact k
          · rintro ⟨n, e, h3, _⟩; cases e; exact h1 h3
      | _ => cases hi
end
end Fm

namespace Fm
open PySem PySem.Spec PyProof.Rows L2
/-! ### symbols and rows of patterns -/
def SymOk : Key → Prop
  | .inl i => InV i
  | .inr s => s.length ≤ 1000000
def dSyms (ks : List Key) : PyData := .tuple (ks.map keyD)
def dPR (r : Str × List Key) : PyData := .tuple [.str r.1, dSyms r.2]
def PRowD (d : PyData) (r : Str × List Key) : Prop := ∃ e, d = .tuple [.str r.1, e] ∧ IsNm r.1 ∧ RowD e (r.2.map keyD) ∧ 1 ≤ r.2.length ∧ r.2.length ≤ 4 ∧ ∀ k ∈ r.2, SymOk k
inductive PRowsD : List PyData → List (Str × List Key) → Prop
  | nil : PRowsD [] []
  | cons {d : PyData} {ds : List PyData} {r : Str × List Key} {rs : List (Str × List Key)} : PRowD d r → PRowsD ds rs → PRowsD (d :: ds) (r :: rs)
theorem PRowsD.len : ∀ {ds : List PyData} {rs : List (Str × List Key)}, PRowsD ds rs → ds.length = rs.length
  | _, _, .nil => rfl
  | _, _, .cons _ h => congrArg (· + 1) h.len
theorem PRowsD.get : ∀ {ds : List PyData} {rs : List (Str × List Key)}, PRowsD ds rs → ∀ {i : Nat} {d : PyData}, ds[i]? = some d → ∃ r, rs[i]? = some r ∧ PRowD d r
  | _, _, .cons a b, 0, d, h => by cases h; exact ⟨_, rfl, a⟩
  | _, _, .cons a b, i + 1, d, h => b.get (i := i) h
theorem PRowsD.ok : ∀ {ds : List PyData} {rs : List (Str × List Key)}, PRowsD ds rs → ∀ r ∈ rs, IsNm r.1 ∧ 1 ≤ r.2.length ∧ r.2.length ≤ 4 ∧ ∀ k ∈ r.2, SymOk k
  | _, _, .nil, r, h => nomatch h
  | _, _, .cons ⟨_, _, a, _, b⟩ c, r, h => by
    rcases List.mem_cons.mp h with rfl | h
    · exact ⟨a, b⟩
    · exact c.ok r h
theorem Dt.sym {S : Addr → Prop} {q : Bool} {H : Hp} {n : Nat} {v : V} {k : Key} (h : Dt S q H n v (keyD k)) : v = kV k := by
  cases k <;> cases h <;> rfl
theorem DtAll.syms {S : Addr → Prop} {q : Bool} {H : Hp} {n : Nat} : ∀ {v : List V} {ks : List Key}, DtAll S q H n v (ks.map keyD) → v = ks.map kV
  | [], [], _ => rfl
  | _ :: _, [], h => by cases h
  | [], _ :: _, h => by cases h
  | x :: v, k :: ks, h => by
    cases h with
    | cons a b => rw [a.sym, DtAll.syms b]; rfl
theorem dt_sym {S : Addr → Prop} {q : Bool} {H : Hp} {n : Nat} : ∀ {k : Key}, SymOk k → Dt S q H n (kV k) (keyD k)
  | .inl _, _ => .int _
  | .inr _, h => .str _ h
theorem dt_syms {S : Addr → Prop} {q : Bool} {H : Hp} {n : Nat} : ∀ {ks : List Key}, (∀ k ∈ ks, SymOk k) → DtAll S q H n (ks.map kV) (ks.map keyD)
  | [], _ => .nil
  | k :: ks, h => .cons (dt_sym (h k List.mem_cons_self)) (dt_syms fun x hx => h x (List.mem_cons_of_mem _ hx))
theorem kb_key (k : Key) : kitB (tyS (keyD k)) "str" = some (match k with | .inl _ => false | .inr _ => true) := by
  cases k
  · exact kb_str (.int _)
  · exact kb_str (.str _)
theorem kV_ty {K : PySem.W.Frag} {H : Hp} {k : Key} : TyX K H (kV k) (.type (tyS (keyD k))) := by
  cases k
  · exact .base (.int _)
  · exact .base (.str _)
def rTupO (K : PySem.W.Frag) : List V → Hp → VK → Prop := fun xs H Q => ∃ p ys, xs = [.ref p] ∧ ((SqL K H p ys ∧ ∀ l, H l = none → Q (.ref l) (upd H l (.tup ys))) ∨ (SqT K H p ys ∧ Q (.ref p) H))
theorem tupO_in {K : PySem.W.Frag} {H : Hp} {f : Addr} {ys : List V} {Q : VK} (h : RwAt H f ys) (q : ∀ l H', Kp [] H H' → H' l = some (.tup ys) → Q (.ref l) H') : rTupO K [V.ref f] H Q := by
  rcases h with h | h
  · exact ⟨f, ys, rfl, .inl ⟨.inl h, fun l hl => q l _ (Kp.new hl) upd_same⟩⟩
  · exact ⟨f, ys, rfl, .inr ⟨.inl (.inl h), q f H (Kp.refl _) h⟩⟩
/-- a row as the given data tells it -/
theorem Dt.prow {S : Addr → Prop} {q : Bool} {H : Hp} {n : Nat} {v : V} {d : PyData} {r : Str × List Key} (h : Dt S q H n v d) (hr : PRowD d r) : ∃ a b m, v = .ref a ∧ n = m + 2 ∧ H a = some (.tup [.str r.1, .ref b]) ∧ RwAt H b (r.2.map kV) ∧ ∃ e, Dt S q H (m + 1) (.ref b) e ∧ isRowD e = true := by
  obtain ⟨e, rfl, n1, re, l1, l2, ok⟩ := hr
  cases h with
  | tup ra la aa =>
    cases aa with
    | cons a1 a2 =>
      cases a1
      cases a2 with
      | cons a3 a4 =>
        cases a4
        have hd : isRowD e = true := by rcases re with rfl | rfl <;> rfl
        obtain ⟨ds, m, p, xs, rfl, rfl, rw', _, _, ax, hds⟩ := a3.row hd
        have e' : ds = r.2.map keyD := by
          rcases hds with ⟨rfl, _⟩ | ⟨rfl, _⟩ <;> rcases re with e | e <;> cases e <;> rfl
        subst e'
        have := ax.syms
        subst this
        exact ⟨_, p, m, rfl, rfl, ra, rw', e, a3, hd⟩
def spChecked : Sp := fun vs H Q _ => ∃ (S : Addr → Prop) (q : Bool) (n : Nat) (x : V) (d : PyData) (es : List PyData) (ps : List (Str × List Key)), vs = [x] ∧ Dt S q H n x d ∧ RowD d es ∧ es.length ≤ 6 ∧ PRowsD es ps ∧
  ∀ L xs H', Kp [] H H' → H L = none → H' L = some (.lst xs) → ImAll H' 2 xs (ps.map dPR) → Q (.ref L) H'
section
variable {P : Program} {w : World} {K : PySem.W.Frag} {mg : Str → Option Value} {base : Heap}
theorem ok_checked {tk : Tok} (B : Bi mg) (M : mg "MOST_ROWS" = some (.int 6 tk)) (D : Dfn K mg "checked_rows" s_checked_rows ["rows"]) (G_is_row : Has P w K mg base CX0 "is_row" ["thing"] 1 spIsRow) (G_is_name : Has P w K mg base CX0 "is_name" ["thing"] 1 spIsName) (G_is_value : Has P w K mg base CX0 "is_value" ["thing"] 2 spIsVal) :
    Has P w K mg base CX0 "checked_rows" ["rows"] 3 spChecked := by
  refine D.has sc_checked_rows (fun vs H Q E h => ?_) (fun f cdv A outer s H vs Q E hr h => ?_)
  · obtain ⟨S, q, n, x, d, es, ps, rfl, _⟩ := h; rfl
  · obtain ⟨S, q, n, x, d, es, ps, rfl, hx, hd, l6, hps, k⟩ := h
    refine ⟨_, (pss_cons (ps_if (PW.pt (pw_or (pt_not (pt_val (pe_has G_is_row (hr.mono (by omega)) (pa_cons (pv 0) pa_nil)))) (pw_or1 (pt_cmpR op_gt (pe_callB call_len (by rfl) B.len PySem.boot_len (pa_cons (pv 0) pa_nil)) (pe_glob (v := .int 6) rfl M ⟨_, rfl⟩) (nomark _)))))
  (pss_one (ps_ret pe_non))
  pss_nil)
  (pss_cons (ps_set (i := 1) sc_checked_rows.nd rfl (by first | exact Or.inl rfl | exact Or.inr rfl) (pe_lst pa_nil))
  (pss_cons (ps_for PassesOwn.never rfl (pi_or (pi_list (pv 0)) (pi_tup (pv 0))) (pg_name (i := 2) sc_checked_rows.nd rfl (by first | exact Or.inl rfl | exact Or.inr rfl))
  (pss_cons (ps_if (PW.pt (pw_or (pt_not (pt_val (pe_callB call_isi (by rfl) B.isinstance (by decide +kernel) (pa_cons (pv 2) (pa_cons (pe_bltn (v := .ty "tuple") (by rfl) B.tuple (by decide +kernel) rfl) pa_nil))))) (pw_or1 (pt_cmpR op_ne (pe_callB call_len (by rfl) B.len PySem.boot_len (pa_cons (pv 2) pa_nil)) pe_int (nomark _)))))
  (pss_one (ps_ret pe_non))
  pss_nil)
  (pss_cons (ps_asg (pv 2) (pg_tup rfl (pgs_cons (pg_name (i := 3) sc_checked_rows.nd rfl (by first | exact Or.inl rfl | exact Or.inr rfl)) (pgs_cons (pg_name (i := 4) sc_checked_rows.nd rfl (by first | exact Or.inl rfl | exact Or.inr rfl)) pgs_nil))))
  (pss_cons (ps_if (PW.pt (pw_or (pt_not (pt_val (pe_has G_is_name (hr.mono (by omega)) (pa_cons (pv 3) pa_nil)))) (pw_or (pt_not (pt_val (pe_has G_is_row (hr.mono (by omega)) (pa_cons (pv 4) pa_nil)))) (pw_or1 (pt_not (pt_chain op_le op_le pe_int (pe_callB call_len (by rfl) B.len PySem.boot_len (pa_cons (pv 4) pa_nil)) pe_int))))))
  (pss_one (ps_ret pe_non))
  pss_nil)
  (pss_cons (ps_for PassesOwn.never rfl (pi_or (pi_list (pv 4)) (pi_tup (pv 4))) (pg_name (i := 5) sc_checked_rows.nd rfl (by first | exact Or.inl rfl | exact Or.inr rfl))
  (pss_one (ps_if (PW.pt (pw_and (pt_not (pt_val (pe_callB call_isi (by rfl) B.isinstance (by decide +kernel) (pa_cons (pv 5) (pa_cons (pe_bltn (v := .ty "str") (by rfl) B.str (by decide +kernel) rfl) pa_nil))))) (pw_and1 (pt_not (pt_val (pe_has G_is_value (hr.mono (by omega)) (pa_cons (pv 5) pa_nil)))))))
  (pss_one (ps_ret pe_non))
  pss_nil)))
  (pss_one (ps_expr (pe_bm PySem.F.plainAttrs_list PySem.F.slot_list_append PySem.F.type_list_append mt_append (pv 1) (pa_cons (pe_tup (pa_cons (pv 3) (pa_cons (pe_callTy (r := rTupO K) call_tuple_of (by rfl) B.tuple (by decide +kernel) (pa_cons (pv 4) pa_nil)) pa_nil))) pa_nil)))))))))
  (pss_one (ps_ret (pv 1)))))), ?_⟩
    have hD : isRowD d = true := by rcases hd with rfl | rfl <;> rfl
    refine ⟨_, rfl, S, q, n, x, d, rfl, hx, fun H1 k1 => ⟨_, rfl, ?_⟩⟩
    rw [hD]
    refine iteF ?_
    obtain ⟨es', m, p, xs, rfl, rfl, rx, lx, _, ax, hds⟩ := (hx.keep k1).row hD
    have e' : es' = es := by
      rcases hds with ⟨rfl, _⟩ | ⟨rfl, _⟩ <;> rcases hd with e | e <;> cases e <;> rfl
    subst e'
    have el := ax.len
    refine ⟨_, rfl, _, _, rfl, rx.len, _, _, rfl, rfl, _, rfl, ?_⟩
    rw [decide_eq_false (show ¬ ((6 : Int) < (xs.length : Nat)) by omega)]
    refine iteF ⟨by show 0 ≤ sizeLine; decide, fun L hL => ?_⟩
    rcases rx with r | r
    all_goals
      first
        | refine .inl ⟨_, rfl, p, rfl, ⟨_, .inl ((Kp.new (ms := []) hL).rd (fun z => nomatch z) r)⟩, for_it (walk_list (xs := xs)) (fun i σ H' => (∃ o2 o3 o4 o5, σ = [some (.ref p), some (.ref L), o2, o3, o4, o5]) ∧ Kp [] H1 H' ∧ ∃ zs, H' L = some (.lst zs) ∧ zs.length = i ∧ ImAll H' 2 zs ((ps.take i).map dPR)) ⟨⟨_, _, _, _, rfl⟩, Kp.new hL, [], upd_same, rfl, .nil⟩ (fun i σ H' _ h => .inl (h.2.1.rd (fun z => nomatch z) r)) ?_ ?_⟩
        | refine .inr ⟨_, rfl, p, rfl, ⟨_, .inl (.inl ((Kp.new (ms := []) hL).tp _ _ r))⟩, for_it (walk_tup (xs := xs)) (fun i σ H' => (∃ o2 o3 o4 o5, σ = [some (.ref p), some (.ref L), o2, o3, o4, o5]) ∧ Kp [] H1 H' ∧ ∃ zs, H' L = some (.lst zs) ∧ zs.length = i ∧ ImAll H' 2 zs ((ps.take i).map dPR)) ⟨⟨_, _, _, _, rfl⟩, Kp.new hL, [], upd_same, rfl, .nil⟩ (fun i σ H' _ h => .inl (.inl (h.2.1.tp _ _ r))) ?_ ?_⟩
      · rintro i u σ H2 H3 hi ⟨⟨o2, o3, o4, o5, rfl⟩, k2, zs, hz, lz, iz⟩ ⟨rfl, hu1⟩
        obtain ⟨e, he, du⟩ := ax.getV hu1
        obtain ⟨r1, hr1, pd⟩ := hps.get he
        obtain ⟨a, b, m', rfl, em, ha, rb, e', de, hde⟩ := (du.keep k2).prow pd
        obtain ⟨e1, rfl, nm1, _, l1, l4, ok1⟩ := pd
        refine ⟨_, rfl, _, _, _, _, _, rfl, .ty _, (du.keep k2).ty, kit_ty (kb_tuple _), _, rfl, iteF ?_⟩
        refine ⟨_, rfl, _, _, rfl, .inr ⟨_, .inl (.inl ha), rfl⟩, rfl, _, rfl, iteB (c := false) (by simp) (iteF ?_)⟩
        refine ⟨_, rfl, a, _, rfl, SqT.of ha, rfl, _, _, rfl, _, _, rfl, rfl, ?_⟩
        refine ⟨_, rfl, (fun _ => True), true, 0, .str r1.1, .str r1.1, rfl, .str _ (by have := nm1.2.1; omega), _, rfl, ?_⟩
        rw [bP_t ⟨_, rfl, nm1⟩]
        refine iteF ⟨_, rfl, S, q, _, .ref b, e', rfl, de, fun H3 k3 => ⟨_, rfl, ?_⟩⟩
        rw [hde]
        refine iteF ⟨_, rfl, _, _, rfl, (rb.keep k3).len, _, _, rfl, rfl, _, rfl, ?_⟩
        rw [List.length_map, decide_eq_true (show (1 : Int) ≤ (r1.2.length : Nat) by omega)]
        refine iteT ⟨_, _, rfl, rfl, _, rfl, ?_⟩
        rw [decide_eq_true (show ((r1.2.length : Nat) : Int) ≤ 4 by omega)]
        refine iteF ?_
        have k23 := k2.trans k3
        rcases rb.keep k3 with rb3 | rb3
        all_goals
          first
            | refine .inl ⟨_, rfl, b, rfl, ⟨_, .inl rb3⟩, for_it (walk_list (xs := r1.2.map kV)) (fun i σ H' => (∃ o5, σ = [some (.ref p), some (.ref L), some (.ref a), some (.str r1.1), some (.ref b), o5]) ∧ H' = H3) ⟨⟨_, rfl⟩, rfl⟩ (fun i σ H' _ h => .inl (h.2 ▸ rb3)) ?_ ?_⟩
            | refine .inr ⟨_, rfl, b, rfl, ⟨_, .inl (.inl rb3)⟩, for_it (walk_tup (xs := r1.2.map kV)) (fun i σ H' => (∃ o5, σ = [some (.ref p), some (.ref L), some (.ref a), some (.str r1.1), some (.ref b), o5]) ∧ H' = H3) ⟨⟨_, rfl⟩, rfl⟩ (fun i σ H' _ h => .inl (.inl (h.2 ▸ rb3))) ?_ ?_⟩
          · rintro j u σ H4 H5 hj ⟨⟨o5, rfl⟩, rfl⟩ ⟨rfl, hu2⟩
            obtain ⟨y, hy, rfl⟩ : ∃ y, r1.2[j]? = some y ∧ u = kV y := by
              rw [List.getElem?_map] at hu2
              cases ey : r1.2[j]? with
              | none => rw [ey] at hu2; cases hu2
              | some y => rw [ey] at hu2; cases hu2; exact ⟨y, rfl, rfl⟩
            have oky := ok1 y (List.mem_of_getElem? hy)
            refine ⟨_, rfl, _, _, _, _, _, rfl, .ty _, kV_ty, kit_ty (kb_key y), _, rfl, ?_⟩
            cases y with
            | inr sy => exact iteF (iteF ⟨⟨_, rfl⟩, rfl⟩)
            | inl iy =>
              refine iteT ⟨_, rfl, (fun _ => True), true, 0, .int iy, .int iy, rfl, .int _, _, rfl, ?_⟩
              rw [bP_t ⟨_, rfl, oky⟩]
              exact iteF ⟨⟨_, rfl⟩, rfl⟩
          · rintro σ H4 ⟨⟨o5, rfl⟩, rfl⟩
            refine ⟨_, rfl, .inl ⟨rfl, _, SqL.of (k3.at_ _ _ hz (fun z => nomatch z))⟩, _, rfl, _, rfl, ?_⟩
            dsimp only [tNil]
            refine tupO_in (rb.keep k3) fun l H4 k4 h4 => ⟨by show 2 ≤ sizeLine; decide, fun t ht => ?_⟩
            have k5 := (k3.trans k4).snoc (o := .tup [.str r1.1, .ref l]) ht
            have hz5 := k5.at_ _ _ hz (fun z => nomatch z)
            have kL : Kp [L] (upd H4 t (.tup [.str r1.1, .ref l])) (upd (upd H4 t (.tup [.str r1.1, .ref l])) L (.lst (zs ++ [.ref t]))) := Kp.updL hz5 (by simp)
            refine ⟨L, zs, _, rfl, rfl, hz5, by rw [lz]; exact small1000 (by omega), ?_⟩
            refine ⟨⟨_, _, _, _, rfl⟩, (k2.trans k5).late hL, zs ++ [.ref t], upd_same, by simp [lz], ?_⟩
            rw [take_snoc hr1, List.map_append]
            have hl7 := kL.tp _ _ ((Kp.new (ms := []) ht).tp _ _ h4)
            have ht7 := kL.tp _ _ (upd_same (H := H4) (a := t))
            refine (ImAll.kp (k5.zero.trans kL) iz).append (.cons ?_ .nil)
            exact .tup ht7 ⟨by show 2 ≤ 1000000; decide, ⟨_, ht7⟩⟩ (.cons (.str _ (by have := nm1.2.1; omega)) (.cons (.tup hl7 ⟨by rw [List.length_map]; omega, ⟨_, hl7⟩⟩ (dt_syms ok1)) .nil))
      · rintro σ H2 ⟨⟨o2, o3, o4, o5, rfl⟩, k2, zs, hz, lz, iz⟩
        rw [el, hps.len, List.take_length] at iz
        exact ⟨_, rfl, k L zs H2 (k1.trans k2) (k1.same.free hL) hz iz⟩
end
end Fm

namespace Fm
open PySem PySem.Spec PyProof.Rows L2
/-! ### the names of the unknowns -/
def addN (ns : List Str) : Key → List Str
  | .inl _ => ns
  | .inr s => if s ∈ ns then ns else ns ++ [s]
theorem addN_inr (ns : List Str) (t : Str) : addN ns (.inr t) = if t ∈ ns then ns else ns ++ [t] := rfl
def addR (ns : List Str) (r : Str × List Key) : List Str := r.2.foldl addN ns
def namesP (ps : List (Str × List Key)) : List Str := ps.foldl addR []
def ltr (i : Nat) : Str := ⟨#[97 + i]⟩
def nmKvFrom (j : Nat) (ns : List Str) : List (Key × V) := (ns.zipIdx j).map fun p => (.inr p.1, .str (ltr p.2))
abbrev nmKv (ns : List Str) : List (Key × V) := nmKvFrom 0 ns
def ren (ns : List Str) : Key → Key
  | .inl i => .inl i
  | .inr s => if s ∈ ns then .inr (ltr (ns.idxOf s)) else .inr s
theorem ren_inr (ns : List Str) (s : Str) : ren ns (.inr s) = if s ∈ ns then .inr (ltr (ns.idxOf s)) else .inr s := rfl
theorem nmKv_len (j : Nat) (ns : List Str) : (nmKvFrom j ns).length = ns.length := by unfold nmKvFrom; rw [List.length_map, List.length_zipIdx]
theorem nmKv_keys : ∀ (ns : List Str) (j : Nat), (nmKvFrom j ns).map (·.1) = ns.map Sum.inr
  | [], _ => rfl
  | a :: ns, j => congrArg (Sum.inr a :: ·) (nmKv_keys ns (j + 1))
theorem nmKv_snoc (ns : List Str) (s : Str) : nmKv (ns ++ [s]) = nmKv ns ++ [(.inr s, .str (ltr ns.length))] := by
  unfold nmKv nmKvFrom
  rw [List.zipIdx_append, List.map_append, Nat.zero_add]; rfl
theorem valV_nmFrom (s : Str) : ∀ (ns : List Str) (j : Nat), valV (nmKvFrom j ns) (.inr s) = if s ∈ ns then some (.str (ltr (j + ns.idxOf s))) else none
  | [], _ => rfl
  | a :: ns, j => by
    have ih := valV_nmFrom s ns (j + 1)
    have e : nmKvFrom j (a :: ns) = (.inr a, .str (ltr j)) :: nmKvFrom (j + 1) ns := rfl
    rw [e]
    by_cases h : a = s
    · subst h
      unfold valV
      rw [List.find?_cons_of_pos (by simp), if_pos List.mem_cons_self, List.idxOf_cons_self]; rfl
    · have h' : ¬ s = a := fun z => h z.symm
      unfold valV at ih ⊢
      rw [List.find?_cons_of_neg (by simp [h]), ih]
      by_cases hm : s ∈ ns
      · rw [if_pos hm, if_pos (List.mem_cons_of_mem _ hm), show (a :: ns).idxOf s = ns.idxOf s + 1 from (by
        rw [List.idxOf_cons]
        cases e : (a == s) with
        | true => exact absurd (eq_of_beq e) h
        | false => rfl)]
        rw [show j + 1 + ns.idxOf s = j + (ns.idxOf s + 1) by omega]
      · rw [if_neg hm, if_neg (fun z => (List.mem_cons.mp z).elim h' hm)]
theorem valV_nm (s : Str) (ns : List Str) : valV (nmKv ns) (.inr s) = if s ∈ ns then some (.str (ltr (ns.idxOf s))) else none := by
  rw [valV_nmFrom, Nat.zero_add]
theorem valV_nmI (i : Int) (ns : List Str) : valV (nmKv ns) (.inl i) = none := by
  refine valV_out ?_
  rw [nmKv_keys]
  intro h
  obtain ⟨x, _, e⟩ := List.mem_map.mp h
  cases e
theorem ren_get (ns : List Str) (k : Key) : (valV (nmKv ns) k).getD (kV k) = kV (ren ns k) := by
  cases k with
  | inl i => rw [valV_nmI]; rfl
  | inr s =>
    rw [valV_nm]
    rw [ren_inr]
    by_cases h : s ∈ ns
    · rw [if_pos h, if_pos h]; rfl
    · rw [if_neg h, if_neg h]; rfl
theorem addN_sub (ns : List Str) (k : Key) : ∀ s ∈ ns, s ∈ addN ns k := by
  intro s h
  cases k with
  | inl _ => exact h
  | inr t =>
    rw [addN_inr]
    split
    · exact h
    · exact List.mem_append_left _ h
theorem addN_nd {ns : List Str} (k : Key) (h : ns.Nodup) : (addN ns k).Nodup := by
  cases k with
  | inl _ => exact h
  | inr t =>
    rw [addN_inr]
    split
    · exact h
    · rename_i hn
      exact List.nodup_append.mpr ⟨h, List.nodup_cons.mpr ⟨List.not_mem_nil, List.nodup_nil⟩, fun a ha b hb => by
        rw [List.mem_singleton.mp hb]; rintro rfl; exact hn ha⟩
theorem addN_len (ns : List Str) (k : Key) : (addN ns k).length ≤ ns.length + 1 := by
  cases k with
  | inl _ => exact Nat.le_succ _
  | inr t =>
    rw [addN_inr]
    split
    · exact Nat.le_succ _
    · rw [List.length_append]; exact Nat.le_refl _
theorem foldN_len : ∀ (ks : List Key) (ns : List Str), (ks.foldl addN ns).length ≤ ns.length + ks.length
  | [], _ => Nat.le_refl _
  | k :: ks, ns => by
    have a := foldN_len ks (addN ns k)
    have b := addN_len ns k
    rw [List.foldl_cons, List.length_cons]
    omega
theorem foldN_sub : ∀ (ks : List Key) (ns : List Str), ∀ s ∈ ns, s ∈ ks.foldl addN ns
  | [], _, _, h => h
  | k :: ks, ns, s, h => foldN_sub ks _ s (addN_sub ns k s h)
theorem foldN_in : ∀ (ks : List Key) (ns : List Str) (s : Str), Sum.inr s ∈ ks → s ∈ ks.foldl addN ns
  | k :: ks, ns, s, h => by
    rw [List.foldl_cons]
    rcases List.mem_cons.mp h with rfl | h
    · refine foldN_sub ks _ s ?_
      rw [addN_inr]
      split
      · assumption
      · exact List.mem_append_right _ List.mem_cons_self
    · exact foldN_in ks _ s h
theorem foldN_nd : ∀ (ks : List Key) {ns : List Str}, ns.Nodup → (ks.foldl addN ns).Nodup
  | [], _, h => h
  | k :: ks, _, h => foldN_nd ks (addN_nd k h)
theorem foldR_len : ∀ (ps : List (Str × List Key)) (ns : List Str), (∀ r ∈ ps, r.2.length ≤ 4) → (ps.foldl addR ns).length ≤ ns.length + 4 * ps.length
  | [], _, _ => Nat.le_refl _
  | r :: ps, ns, h => by
    have a := foldR_len ps (addR ns r) fun x hx => h x (List.mem_cons_of_mem _ hx)
    have b := foldN_len r.2 ns
    have c := h r List.mem_cons_self
    unfold addR at a
    rw [List.foldl_cons, List.length_cons]
    unfold addR
    omega
theorem foldR_sub : ∀ (ps : List (Str × List Key)) (ns : List Str), ∀ s ∈ ns, s ∈ ps.foldl addR ns
  | [], _, _, h => h
  | r :: ps, ns, s, h => foldR_sub ps _ s (foldN_sub r.2 ns s h)
theorem foldR_in : ∀ (ps : List (Str × List Key)) (ns : List Str) (s : Str), ∀ r ∈ ps, Sum.inr s ∈ r.2 → s ∈ ps.foldl addR ns
  | r :: ps, ns, s, x, hx, h => by
    rw [List.foldl_cons]
    rcases List.mem_cons.mp hx with rfl | hx
    · exact foldR_sub ps _ s (foldN_in x.2 ns s h)
    · exact foldR_in ps _ s x hx h
theorem foldR_nd : ∀ (ps : List (Str × List Key)) {ns : List Str}, ns.Nodup → (ps.foldl addR ns).Nodup
  | [], _, h => h
  | r :: ps, _, h => foldR_nd ps (foldN_nd r.2 h)
theorem namesP_nd (ps : List (Str × List Key)) : (namesP ps).Nodup := foldR_nd ps List.nodup_nil
theorem ltr_inj {i j : Nat} (h : ltr i = ltr j) : i = j := by
  have e : (ltr i).cps.toList = (ltr j).cps.toList := by rw [h]
  unfold ltr at e
  simp at e
  exact e
theorem Im.prow {H : Hp} {n : Nat} {v : V} {r : Str × List Key} (h : Im H n v (dPR r)) : ∃ a b, v = .ref a ∧ H a = some (.tup [.str r.1, .ref b]) ∧ H b = some (.tup (r.2.map kV)) := by
  cases h with
  | tup ra la aa =>
    cases aa with
    | cons a1 a2 =>
      cases a1
      cases a2 with
      | cons a3 a4 =>
        cases a4
        cases a3 with
        | tup rb lb ab =>
          have := ab.syms
          subst this
          exact ⟨_, _, rfl, ra, rb⟩
def PsOk (ps : List (Str × List Key)) : Prop := ps.length ≤ 6 ∧ ∀ r ∈ ps, IsNm r.1 ∧ 1 ≤ r.2.length ∧ r.2.length ≤ 4 ∧ ∀ k ∈ r.2, SymOk k
def spNames : Sp := fun vs H Q _ => ∃ (L : Addr) (xs : List V) (ps : List (Str × List Key)), vs = [.ref L] ∧ H L = some (.lst xs) ∧ ImAll H 2 xs (ps.map dPR) ∧ PsOk ps ∧
  ∀ D H', Kp [] H H' → H D = none → H' D = some (.dK (nmKv (namesP ps))) → Q (.ref D) H'
def spRenamed : Sp := fun vs H Q _ => ∃ (a D : Addr) (ks : List Key) (ns : List Str), vs = [.ref a, .ref D] ∧ RwAt H a (ks.map kV) ∧ ks.length ≤ 1000 ∧ H D = some (.dK (nmKv ns)) ∧
  ∀ l H', Kp [] H H' → H' l = some (.tup ((ks.map (ren ns)).map kV)) → Q (.ref l) H'
def renR (ns : List Str) (r : Str × List Key) : Str × List Key := (r.1, r.2.map (ren ns))
theorem ren_ok {ns : List Str} {k : Key} (h : SymOk k) : SymOk (ren ns k) := by
  cases k with
  | inl i => exact h
  | inr s =>
    rw [ren_inr]
    split
    · show (ltr _).length ≤ 1000000; unfold ltr; show 1 ≤ 1000000; decide
    · exact h
def spRenRows : Sp := fun vs H Q _ => ∃ (L D : Addr) (xs : List V) (ps : List (Str × List Key)) (ns : List Str), vs = [.ref L, .ref D] ∧ H L = some (.lst xs) ∧ ImAll H 2 xs (ps.map dPR) ∧ PsOk ps ∧ H D = some (.dK (nmKv ns)) ∧
  ∀ v H', Kp [] H H' → Im H' 3 v (.tuple ((ps.map (renR ns)).map dPR)) → Q v H'
/-- a right group -/
def GrpD (d : PyData) (ns : List Str) (g : List Key) : Prop := RowD d (g.map keyD) ∧ g.length ≤ 3 ∧ (∀ k ∈ g, SymOk k) ∧ ∀ s, Sum.inr s ∈ g → s ∈ ns
def spIsGroup : Sp := fun vs H Q _ => ∃ (S : Addr → Prop) (q : Bool) (n : Nat) (x : V) (d : PyData) (D : Addr) (ns : List Str) (g : List Key), vs = [x, .ref D] ∧ Dt S q H n x d ∧ H D = some (.dK (nmKv ns)) ∧ GrpD d ns g ∧ ∀ H', Kp [] H H' → Q (.bl true) H'
/-- a right dict of powers -/
def pwKv (pw : List (Str × Int)) : List (Key × V) := pw.map fun p => (.inr p.1, .int p.2)
def PwOk (ns : List Str) (pw : List (Str × Int)) : Prop := (pw.map (·.1)).Nodup ∧ ∀ p ∈ pw, p.1 ∈ ns ∧ 1 ≤ p.2 ∧ p.2 ≤ 100
def spIsPowers : Sp := fun vs H Q _ => ∃ (D W : Addr) (ns : List Str) (pw : List (Str × Int)), vs = [.ref W, .ref D] ∧ H D = some (.dK (nmKv ns)) ∧ H W = some (.dK (pwKv pw)) ∧ PwOk ns pw ∧ ∀ H', Kp [] H H' → Q (.bl true) H'
section
variable {P : Program} {w : World} {K : PySem.W.Frag} {mg : Str → Option Value} {base : Heap}
theorem ok_names {tk : Tok} (B : Bi mg) (L : mg "LETTERS_patterns" = some (.str abc tk)) (D : Dfn K mg "names_in_order" s_names_in_order ["rows"]) :
    Has P w K mg base CX0 "names_in_order" ["rows"] 2 spNames := by
  refine D.has sc_names_in_order (fun vs H Q E h => ?_) (fun f cdv A outer s H vs Q E hr h => ?_)
  · obtain ⟨L, xs, ps, rfl, _⟩ := h; rfl
  · obtain ⟨L', xs, ps, rfl, hL, ix, ok, k⟩ := h
    have hu := hu_of hr
    refine ⟨_, (pss_cons (ps_set (i := 1) sc_names_in_order.nd rfl (by first | exact Or.inl rfl | exact Or.inr rfl) pe_dnewK)
  (pss_cons (ps_for PassesOwn.never rfl (pi_list (pv 0)) (pg_tup rfl (pgs_cons (pg_name (i := 2) sc_names_in_order.nd rfl (by first | exact Or.inl rfl | exact Or.inr rfl)) (pgs_cons (pg_name (i := 3) sc_names_in_order.nd rfl (by first | exact Or.inl rfl | exact Or.inr rfl)) pgs_nil)))
  (pss_one (ps_for PassesOwn.never rfl (pi_tup (pv 3)) (pg_name (i := 4) sc_names_in_order.nd rfl (by first | exact Or.inl rfl | exact Or.inr rfl))
  (pss_one (ps_if (PW.pt (pw_and (pt_val (pe_callB call_isi (by rfl) B.isinstance (by decide +kernel) (pa_cons (pv 4) (pa_cons (pe_bltn (v := .ty "str") (by rfl) B.str (by decide +kernel) rfl) pa_nil)))) (pw_and1 (pt_cmp (pc_dnotin hu (pv 4) (pv 1)) rfl))))
  (pss_one (ps_dput hu (pv 1) (pv 4) (pe_ix ix_str (pe_glob (v := .str abc) rfl L ⟨_, rfl⟩) (pe_callB call_lenD (by rfl) B.len PySem.boot_len (pa_cons (pv 1) pa_nil)) (fun _ _ => rfl)) rfl))
  pss_nil)))))
  (pss_one (ps_ret (pv 1))))), ?_⟩
    have el : xs.length = ps.length := by rw [ix.len, List.length_map]
    intro D hD
    have k0 : Kp [] H (upd H D (.dK [])) := Kp.new hD
    refine ⟨_, rfl, L', rfl, ⟨_, SqL.of (k0.at_ _ _ hL (fun z => nomatch z))⟩, ?_⟩
    refine for_it (walk_list (xs := xs)) (fun i σ H' => (∃ o2 o3 o4, σ = [some (.ref L'), some (.ref D), o2, o3, o4]) ∧ Kp [] H H' ∧ H' D = some (.dK (nmKv ((ps.take i).foldl addR [])))) ⟨⟨_, _, _, rfl⟩, k0, upd_same⟩ (fun i σ H' _ h => SqL.of (h.2.1.at_ _ _ hL (fun z => nomatch z))) ?_ ?_
    · rintro i u σ H2 H3 hi ⟨⟨o2, o3, o4, rfl⟩, k2, h2⟩ ⟨rfl, hu1⟩
      obtain ⟨du, hdu, iu⟩ := ix.getV hu1
      rw [List.getElem?_map] at hdu
      cases er : ps[i]? with
      | none => rw [er] at hdu; cases hdu
      | some r =>
        rw [er] at hdu
        cases hdu
        obtain ⟨a, b, rfl, ha, hb⟩ := (Im.kp k2 iu).prow
        have okr := ok.2 r (List.mem_of_getElem? er)
        have ln : ((ps.take i).foldl addR []).length ≤ 4 * i := by
          have := foldR_len (ps.take i) [] fun x hx => (ok.2 x (List.mem_of_mem_take hx)).2.2.1
          rw [List.length_take] at this
          have := Nat.min_le_left i ps.length
          simp only [List.length_nil] at *
          omega
        have i6 : i < 6 := by have := ok.1; omega
        rw [take_snoc er, List.foldl_append]
        generalize hns : (ps.take i).foldl addR [] = ns at h2 ln
        refine ⟨a, _, rfl, SqT.of ha, rfl, _, _, rfl, _, _, rfl, rfl, ?_⟩
        refine ⟨_, rfl, b, rfl, ⟨_, .inl (.inl hb)⟩, ?_⟩
        refine for_it (walk_tup (xs := r.2.map kV)) (fun j σ H' => (∃ o4, σ = [some (.ref L'), some (.ref D), some (.str r.1), some (.ref b), o4]) ∧ Kp [] H H' ∧ H' D = some (.dK (nmKv ((r.2.take j).foldl addN ns))) ∧ H' b = some (.tup (r.2.map kV))) ⟨⟨_, rfl⟩, k2, h2, hb⟩ (fun j σ H' _ h => .inl (.inl h.2.2.2)) ?_ ?_
        · rintro j u σ H4 H5 hj ⟨⟨o4, rfl⟩, k4, h4, hb4⟩ ⟨rfl, hu2⟩
          rw [List.getElem?_map] at hu2
          cases ey : r.2[j]? with
          | none => rw [ey] at hu2; cases hu2
          | some y =>
            rw [ey] at hu2
            cases hu2
            rw [take_snoc ey, List.foldl_append]
            have l5 : ((r.2.take j).foldl addN ns).length ≤ 4 * i + j := by
              have := foldN_len (r.2.take j) ns
              rw [List.length_take] at this
              have := Nat.min_le_left j r.2.length
              omega
            have j4 : j < 4 := by
              have := (List.getElem?_eq_some_iff.mp ey).1
              omega
            generalize hms : (r.2.take j).foldl addN ns = ms at h4 l5
            refine ⟨_, rfl, _, _, _, _, _, rfl, .ty _, kV_ty, kit_ty (kb_key y), _, rfl, ?_⟩
            cases y with
            | inl iy => exact iteF (iteF ⟨⟨_, rfl⟩, k4, h4, hb4⟩)
            | inr sy =>
              refine iteT ⟨_, rfl, _, rfl, D, _, rfl, .inl ⟨_, .inr sy, .inl h4, rfl, rfl⟩, _, rfl, ?_⟩
              rw [valV_nm]
              by_cases hm : sy ∈ ms
              · rw [if_pos hm]
                refine iteF ⟨⟨_, rfl⟩, k4, ?_, hb4⟩
                show H5 D = some (.dK (nmKv (addN ms (.inr sy))))
                rw [addN_inr, if_pos hm]; exact h4
              · rw [if_neg hm]
                refine iteT ?_
                refine ⟨_, rfl, D, _, rfl, h4, abc, _, _, rfl, rfl, by rw [abc_len]; decide, abc_ix (by omega) (by rw [nmKv_len]; omega), _, rfl, _, rfl, D, _, rfl, .inl ⟨_, .inr sy, h4, rfl, by rw [nmKv_len]; exact small1000 (by omega), rfl⟩, ?_⟩
                rw [putK_new _ (by rw [valV_nm, if_neg hm])]
                refine ⟨⟨_, rfl⟩, k4.late hD, ?_, by rw [upd_ne (fun z => by rw [z, h4] at hb4; cases hb4)]; exact hb4⟩
                rw [upd_same]
                show some (HO.dK _) = some (.dK (nmKv (addN ms (.inr sy))))
                rw [addN_inr, if_neg hm, nmKv_snoc, nmKv_len, Int.toNat_natCast]; rfl
        · rintro σ H4 ⟨⟨o4, rfl⟩, k4, h4, hb4⟩
          rw [List.length_map, List.take_length] at h4
          exact ⟨⟨_, _, _, rfl⟩, k4, h4⟩
    · rintro σ H2 ⟨⟨o2, o3, o4, rfl⟩, k2, h2⟩
      rw [el, List.take_length] at h2
      exact ⟨_, rfl, k D H2 k2 hD h2⟩
end
end Fm

namespace Fm
open PySem PySem.Spec PyProof.Rows L2
section
variable {P : Program} {w : World} {K : PySem.W.Frag} {mg : Str → Option Value} {base : Heap}
theorem ok_renamed (B : Bi mg) (D : Dfn K mg "renamed" s_renamed ["symbols", "names"]) :
    Has P w K mg base CX0 "renamed" ["symbols", "names"] 2 spRenamed := by
  refine D.has sc_renamed (fun vs H Q E h => ?_) (fun f cdv A outer s H vs Q E hr h => ?_)
  · obtain ⟨a, D, ks, ns, rfl, _⟩ := h; rfl
  · obtain ⟨a, D', ks, ns, rfl, ra, l1, hD, k⟩ := h
    have hu := hu_of hr
    refine ⟨_, (pss_one (ps_ret (pe_callTy call_tuple_of (by rfl) B.tuple (by decide +kernel) (pa_cons (pe_lc (own := [("symbol", 2)]) (g := gName 2) (by rfl) sc_renamed.nd (pi_or (pi_list (pv 0)) (pi_tup (pv 0))) (blkOk_by (own := [("symbol", 2)]) (N := N_renamed) (sc := defScope s_renamed) (by decide +kernel)) (fun _ _ _ _ _ => (pg_name (i := 2) sc_renamed.nd rfl (by first | exact Or.inl rfl | exact Or.inr rfl))) (fun _ _ _ _ _ => pts_nil) (fun _ _ _ _ _ => (pe_dget2 hu (pv 1) (pv 2) (pv 2) ⟨rfl, rfl, rfl, rfl⟩))) pa_nil)))), ?_⟩
    rcases ra with r | r
    all_goals
      first
        | refine .inl ⟨_, rfl, a, rfl, ⟨_, .inl r⟩, fun L hL => lc_it (walk_list (xs := ks.map kV)) (fun j H' => H' L = some (.lst (((ks.take j).map (ren ns)).map kV)) ∧ Kp [] H H') ⟨upd_same, Kp.new hL⟩ (fun j H' _ h => .inl (h.2.rd (fun z => nomatch z) r)) (fun j u H2 H3 hj h2 hy => ?_) (fun H2 h2 => ?_)⟩
        | refine .inr ⟨_, rfl, a, rfl, ⟨_, .inl (.inl r)⟩, fun L hL => lc_it (walk_tup (xs := ks.map kV)) (fun j H' => H' L = some (.lst (((ks.take j).map (ren ns)).map kV)) ∧ Kp [] H H') ⟨upd_same, Kp.new hL⟩ (fun j H' _ h => .inl (.inl (h.2.tp _ _ r))) (fun j u H2 H3 hj h2 hy => ?_) (fun H2 h2 => ?_)⟩
      · obtain ⟨h2, k2⟩ := h2
        obtain ⟨rfl, hu1⟩ := hy
        rw [List.getElem?_map] at hu1
        cases ey : ks[j]? with
        | none => rw [ey] at hu1; cases hu1
        | some y =>
          rw [ey] at hu1
          cases hu1
          have hD2 := k2.at_ _ _ hD (fun z => nomatch z)
          refine ⟨rfl, _, rfl, D', rfl, .inl ⟨_, .inl hD2⟩, _, rfl, _, rfl, _, .inl ⟨_, y, .inl hD2, rfl, rfl⟩, ?_⟩
          rw [ren_get]
          refine ⟨_, h2, ?_, ?_, k2.late hL⟩
          · rw [List.length_map, List.length_map, List.length_take]
            have := Nat.min_le_left j ks.length
            rw [List.length_map] at hj
            exact small1000 (by omega)
          · rw [upd_same, take_snoc ey, List.map_append, List.map_append]; rfl
      · obtain ⟨h2, k2⟩ := h2
        rw [List.length_map, List.take_length] at h2
        exact ⟨L, _, rfl, .inl ⟨SqL.of h2, fun l hl => k l _ (k2.snoc hl) upd_same⟩⟩
theorem ok_renrows (B : Bi mg) (D : Dfn K mg "renamed_rows" s_renamed_rows ["rows", "names"]) (G_renamed : Has P w K mg base CX0 "renamed" ["symbols", "names"] 2 spRenamed) :
    Has P w K mg base CX0 "renamed_rows" ["rows", "names"] 3 spRenRows := by
  refine D.has sc_renamed_rows (fun vs H Q E h => ?_) (fun f cdv A outer s H vs Q E hr h => ?_)
  · obtain ⟨L, D, xs, ps, ns, rfl, _⟩ := h; rfl
  · obtain ⟨L', D', xs, ps, ns, rfl, hL', ix, ok, hD, k⟩ := h
    have hu := hu_of hr
    refine ⟨_, (pss_one (ps_ret (pe_callTy call_tuple_of (by rfl) B.tuple (by decide +kernel) (pa_cons (pe_lc (own := [("table", 2), ("symbols", 3)]) (g := gTup K 2 (gCons (gName 2) (gCons (gName 3) gNil))) (by rfl) sc_renamed_rows.nd (pi_list (pv 0)) (blkOk_by (own := [("table", 2), ("symbols", 3)]) (N := N_renamed_rows) (sc := defScope s_renamed_rows) (by decide +kernel)) (fun _ _ _ _ _ => (pg_tup rfl (pgs_cons (pg_name (i := 2) sc_renamed_rows.nd rfl (by first | exact Or.inl rfl | exact Or.inr rfl)) (pgs_cons (pg_name (i := 3) sc_renamed_rows.nd rfl (by first | exact Or.inl rfl | exact Or.inr rfl)) pgs_nil)))) (fun _ _ _ _ _ => pts_nil) (fun _ _ _ _ _ => (pe_tup (pa_cons (pv 2) (pa_cons (pe_has G_renamed (hr.mono (by omega)) (pa_cons (pv 3) (pa_cons (pv 1) pa_nil))) pa_nil))))) pa_nil)))), ?_⟩
    have el : xs.length = ps.length := by rw [ix.len, List.length_map]
    have ok1 := ok.1
    refine ⟨_, rfl, L', rfl, ⟨_, SqL.of hL'⟩, fun L hL => lc_it (walk_list (xs := xs)) (fun j H' => ∃ zs, H' L = some (.lst zs) ∧ ImAll H' 2 zs (((ps.take j).map (renR ns)).map dPR) ∧ zs.length = j ∧ Kp [] H H') ⟨[], upd_same, .nil, rfl, Kp.new hL⟩ (fun j H' _ h => let ⟨_, _, _, _, k2⟩ := h; SqL.of (k2.at_ _ _ hL' (fun z => nomatch z))) (fun j u H2 H3 hj h2 hy => ?_) (fun H2 h2 => ?_)⟩
    · obtain ⟨zs, h2, i2, lz, k2⟩ := h2
      obtain ⟨rfl, hu1⟩ := hy
      obtain ⟨du, hdu, iu⟩ := ix.getV hu1
      rw [List.getElem?_map] at hdu
      cases er : ps[j]? with
      | none => rw [er] at hdu; cases hdu
      | some r =>
        rw [er] at hdu
        cases hdu
        obtain ⟨a, b, rfl, ha, hb⟩ := (Im.kp k2 iu).prow
        have okr := ok.2 r (List.mem_of_getElem? er)
        refine ⟨a, _, rfl, SqT.of ha, rfl, _, _, rfl, _, _, rfl, rfl, ?_⟩
        refine ⟨rfl, _, rfl, _, rfl, _, rfl, b, D', r.2, ns, rfl, .inr hb, by omega, k2.at_ _ _ hD (fun z => nomatch z), fun l H4 k4 h4 => ?_⟩
        refine ⟨by show 2 ≤ sizeLine; decide, fun t ht => ?_⟩
        have k5 := k4.snoc (o := .tup [.str r.1, .ref l]) ht
        have hz5 := k5.at_ _ _ h2 (fun z => nomatch z)
        refine ⟨zs, hz5, by rw [lz]; exact small1000 (by omega), zs ++ [.ref t], upd_same, ?_, by simp [lz], (k2.trans k5).late hL⟩
        rw [take_snoc er, List.map_append, List.map_append]
        have kL : Kp [L] (upd H4 t (.tup [.str r.1, .ref l])) (upd (upd H4 t (.tup [.str r.1, .ref l])) L (.lst (zs ++ [.ref t]))) := Kp.updL hz5 (by simp)
        have hl7 := kL.tp _ _ ((Kp.new (ms := []) ht).tp _ _ h4)
        have ht7 := kL.tp _ _ (upd_same (H := H4) (a := t))
        refine (ImAll.kp (k5.zero.trans kL) i2).append (.cons ?_ .nil)
        refine .tup ht7 ⟨by show 2 ≤ 1000000; decide, ⟨_, ht7⟩⟩ (.cons (.str _ (by have := okr.1.2.1; omega)) (.cons (.tup hl7 ⟨by rw [List.length_map, List.length_map]; omega, ⟨_, hl7⟩⟩ (dt_syms fun y hy => ?_)) .nil))
        obtain ⟨y0, hy0, rfl⟩ := List.mem_map.mp hy
        exact ren_ok (okr.2.2.2 y0 hy0)
    · obtain ⟨zs, h2, i2, lz, k2⟩ := h2
      rw [el, List.take_length] at i2
      refine ⟨L, zs, rfl, .inl ⟨SqL.of h2, fun l hl => k _ _ (k2.snoc hl) (.tup upd_same ⟨by omega, ⟨_, upd_same⟩⟩ (ImAll.kp (ms := []) (Kp.new hl) i2))⟩⟩
theorem ok_is_group (B : Bi mg) (D : Dfn K mg "is_group" s_is_group ["group", "names"]) (G_is_row : Has P w K mg base CX0 "is_row" ["thing"] 1 spIsRow) (G_is_value : Has P w K mg base CX0 "is_value" ["thing"] 2 spIsVal) :
    Has P w K mg base CX0 "is_group" ["group", "names"] 3 spIsGroup := by
  refine D.has sc_is_group (fun vs H Q E h => ?_) (fun f cdv A outer s H vs Q E hr h => ?_)
  · obtain ⟨S, q, n, x, d, D, ns, g, rfl, _⟩ := h; rfl
  · obtain ⟨S, q, n, x, d, D', ns, g, rfl, hx, hD, ⟨rd, l3, okg, ing⟩, k⟩ := h
    have hu := hu_of hr
    refine ⟨_, (pss_cons (ps_if (PW.pt (pw_or (pt_not (pt_val (pe_has G_is_row (hr.mono (by omega)) (pa_cons (pv 0) pa_nil)))) (pw_or1 (pt_cmpR op_gt (pe_callB call_len (by rfl) B.len PySem.boot_len (pa_cons (pv 0) pa_nil)) pe_int (nomark _)))))
  (pss_one (ps_ret pe_bl))
  pss_nil)
  (pss_cons (ps_for PassesOwn.never rfl (pi_or (pi_list (pv 0)) (pi_tup (pv 0))) (pg_name (i := 2) sc_is_group.nd rfl (by first | exact Or.inl rfl | exact Or.inr rfl))
  (pss_one (ps_if (pt_val (pe_callB call_isi (by rfl) B.isinstance (by decide +kernel) (pa_cons (pv 2) (pa_cons (pe_bltn (v := .ty "str") (by rfl) B.str (by decide +kernel) rfl) pa_nil))))
  (pss_one (ps_if (pt_cmp (pc_dnotin hu (pv 2) (pv 1)) rfl)
  (pss_one (ps_ret pe_bl))
  pss_nil))
  (pss_one (ps_if (pt_not (pt_val (pe_has G_is_value (hr.mono (by omega)) (pa_cons (pv 2) pa_nil))))
  (pss_one (ps_ret pe_bl))
  pss_nil)))))
  (pss_one (ps_ret pe_bl)))), ?_⟩
    have hd : isRowD d = true := by rcases rd with rfl | rfl <;> rfl
    refine ⟨_, rfl, S, q, n, x, d, rfl, hx, fun H1 k1 => ⟨_, rfl, ?_⟩⟩
    rw [hd]
    obtain ⟨ds, m, p, xs, rfl, rfl, rx, lx, _, ax, hds⟩ := (hx.keep k1).row hd
    have e' : ds = g.map keyD := by
      rcases hds with ⟨rfl, _⟩ | ⟨rfl, _⟩ <;> rcases rd with e | e <;> cases e <;> rfl
    subst e'
    have := ax.syms
    subst this
    refine iteF ⟨_, rfl, _, _, rfl, rx.len, _, _, rfl, rfl, _, rfl, ?_⟩
    rw [List.length_map, decide_eq_false (show ¬ ((3 : Int) < (g.length : Nat)) by omega)]
    refine iteF ?_
    have hD1 := k1.at_ _ _ hD (fun z => nomatch z)
    rcases rx with r | r
    all_goals
      first
        | refine .inl ⟨_, rfl, p, rfl, ⟨_, .inl r⟩, for_it (walk_list (xs := g.map kV)) (fun i σ H' => (∃ o, σ = [some (.ref p), some (.ref D'), o]) ∧ H' = H1) ⟨⟨_, rfl⟩, rfl⟩ (fun i σ H' _ h => .inl (h.2 ▸ r)) ?_ ?_⟩
        | refine .inr ⟨_, rfl, p, rfl, ⟨_, .inl (.inl r)⟩, for_it (walk_tup (xs := g.map kV)) (fun i σ H' => (∃ o, σ = [some (.ref p), some (.ref D'), o]) ∧ H' = H1) ⟨⟨_, rfl⟩, rfl⟩ (fun i σ H' _ h => .inl (.inl (h.2 ▸ r))) ?_ ?_⟩
      · rintro i u σ H2 H3 hi ⟨⟨o, rfl⟩, rfl⟩ ⟨rfl, hu1⟩
        rw [List.getElem?_map] at hu1
        cases ey : g[i]? with
        | none => rw [ey] at hu1; cases hu1
        | some y =>
          rw [ey] at hu1
          cases hu1
          have my := List.mem_of_getElem? ey
          refine ⟨_, rfl, _, _, _, _, _, rfl, .ty _, kV_ty, kit_ty (kb_key y), _, rfl, ?_⟩
          cases y with
          | inr sy =>
            refine iteT ⟨_, rfl, _, rfl, D', _, rfl, .inl ⟨_, .inr sy, .inl hD1, rfl, rfl⟩, _, rfl, ?_⟩
            rw [valV_nm, if_pos (ing sy my)]
            exact iteF ⟨⟨_, rfl⟩, rfl⟩
          | inl iy =>
            refine iteF ⟨_, rfl, (fun _ => True), true, 0, .int iy, .int iy, rfl, .int _, _, rfl, ?_⟩
            rw [bP_t ⟨_, rfl, okg _ my⟩]
            exact iteF ⟨⟨_, rfl⟩, rfl⟩
      · rintro σ H2 ⟨⟨o, rfl⟩, rfl⟩
        exact k _ k1
end
end Fm

namespace Fm
open PySem PySem.Spec PyProof.Rows L2
/-! ### sorted over pairs of a string and a number: a rule -/
def dPow (p : Str × Int) : PyData := .tuple [.str p.1, .int p.2]
def srt (ps : List (Str × Int)) : List (Str × Int) := ps.mergeSort (PySem.W.dataLe false dPow)
theorem srt_len (ps : List (Str × Int)) : (srt ps).length = ps.length := List.length_mergeSort ps
theorem srt_mem {ps : List (Str × Int)} {p : Str × Int} : p ∈ srt ps ↔ p ∈ ps := List.mem_mergeSort
def PowV (H : Hp) (x : V) (p : Str × Int) : Prop := ∃ t, x = .ref t ∧ H t = some (.tup [.str p.1, .int p.2])
inductive PowAll (H : Hp) : List V → List (Str × Int) → Prop
  | nil : PowAll H [] []
  | cons {x : V} {xs : List V} {p : Str × Int} {ps : List (Str × Int)} : PowV H x p → PowAll H xs ps → PowAll H (x :: xs) (p :: ps)
theorem PowAll.len {H : Hp} : ∀ {xs : List V} {ps : List (Str × Int)}, PowAll H xs ps → xs.length = ps.length
  | _, _, .nil => rfl
  | _, _, .cons _ b => congrArg (· + 1) b.len
theorem PowAll.snoc {H : Hp} {x : V} {p : Str × Int} (h : PowV H x p) : ∀ {xs : List V} {ps : List (Str × Int)}, PowAll H xs ps → PowAll H (xs ++ [x]) (ps ++ [p])
  | _, _, .nil => .cons h .nil
  | _, _, .cons a b => .cons a (b.snoc h)
def rSortedSI (K : PySem.W.Frag) : List V → Hp → VK → Prop := fun vs H Q => ∃ (a : Addr) (xs : List V) (ps : List (Str × Int)), vs = [V.ref a] ∧ SqL K H a xs ∧ PowAll H xs ps ∧ ∀ d ys, H d = none → PowAll H ys (srt ps) → Q (.ref d) (upd H d (.lst ys))
theorem PowAll.each {H : Hp} : ∀ {xs : List V} {ps : List (Str × Int)} {its : List Value}, PowAll H xs ps → Vals xs its → PySem.W.EachIs (fun v p => PowV H (backV v) p ∧ ∃ t, v = Value.ref t) its ps
  | _, _, _, .nil, r => by cases r; exact .nil
  | _, _, _, .cons a b, r => by
    cases r with
    | cons r1 r2 =>
      obtain ⟨t, rfl, ht⟩ := a
      cases r1
      exact .cons ⟨⟨t, rfl, ht⟩, t, rfl⟩ (PowAll.each b r2)
theorem each_pow {H : Hp} : ∀ {its : List Value} {ps : List (Str × Int)}, PySem.W.EachIs (fun v p => PowV H (backV v) p ∧ ∃ t, v = Value.ref t) its ps → PowAll H (its.map backV) ps ∧ ∀ u ∈ its, ∃ a, u = Value.ref a
  | _, _, .nil => ⟨.nil, fun u hu => nomatch hu⟩
  | _, _, .cons a b => ⟨.cons a.1 (each_pow b).1, fun u hu => by
    rcases List.mem_cons.mp hu with rfl | hu
    · exact a.2
    · exact (each_pow b).2 u hu⟩
section
variable {X : Cx}
theorem cr_sortedSI (hu : X.A.units + 64 < cLine) : CallR X (.builtin "sorted") (rSortedSI X.K) := by
  intro pins s σ H vs us Q I r h
  obtain ⟨a, xs, ps, rfl, hs, hx, q⟩ := h
  obtain ⟨its, rv, hl, hz⟩ := I.list hs
  obtain ⟨u, rfl, ru⟩ := vals1 r
  obtain rfl : u = Value.ref a := ru
  have e1 := hx.each rv
  have lp : its.length = ps.length := by rw [← rv.length, hx.len]
  refine PySem.W.sorted_data (enc := dPow) (bs := ps) (R := fun v p => PowV H (backV v) p ∧ ∃ t, v = Value.ref t) hl.isList e1 (e1.mono fun v p hp => ?_) (PySem.W.AllAlike.of fun b b' => by simp [dPow, PySem.W.alike, PySem.W.alikeAll]) (PySem.W.Sortable.tuples fun b => ⟨_, _, rfl⟩) (by rw [← lp, ← rv.length]; exact hz) (fun b _ => ?_) fun out lo eo => ?_
  · obtain ⟨⟨t, e, ht⟩, t', rfl⟩ := hp
    cases e
    obtain ⟨_, its2, r2, o, ho, hc, n, hd⟩ := I.hok _ _ ht
    obtain ⟨u1, u2, rfl, ri, rj⟩ := vals2 r2
    obtain ⟨t1, rfl⟩ := ri
    obtain ⟨t2, rfl⟩ := rj
    exact ⟨_, .tuple ho hc hd (.cons (.str _ _) (.cons (.int _ _) .nil))⟩
  · have : (dPow b).depth ≤ 2 := by simp [dPow, PyData.depth, PyData.depthAll]
    omega
  · obtain ⟨h2, h3⟩ := each_pow eo
    obtain ⟨e, he⟩ := sortedAll_at s.heap its out.toArray
    refine ⟨.ref (s.heap.objs.size + 1), upd H (s.heap.objs.size + 1) (.lst (out.map backV)), I.laid (t' := s.toks) (fun b o hb => sortedAll_old hb) (Nat.le_succ _) ⟨?_, out, e, vals_back h3, he⟩, rfl, q _ _ (I.hok.fresh (Nat.le_succ _)) h2⟩
    rw [List.length_map, lo, ← lp, ← rv.length]; exact hz
end
end Fm

namespace PySem.W
open PySem PySem.Calls PyProof.Rows
section
variable {prog : Program} {w : World} {A : Around} {E : Value → Shared → Prop} {s : Shared} {K : Frag} {x C f L : Addr} {h₀ : Heap} {m : Str → Option Value} {ox : Obj} {od : Option Obj} {b tb : Value}
/-- a special name that the class leaves to a built-in -/
theorem fm_ifBound {M : Model} {nm : Str} {bid : String} {as : List Value} {Q : Option Value → Shared → Prop} (X : K.In s.heap) (I : InstAt s.heap x ox C od) (hs : findIn K (.ref C) nm = some (some (.builtin bid))) (hb : ∀ self, bindSpecial (.builtin bid) self = pure (.builtin bid, [self]))
    (h : wpAny M A (call (.builtin bid) (.ref x :: as)) (fun v => Q (some v)) E s) : wpAny M A (callSpecialIfBound? (.ref x) nm as) Q E s := by
  have last : wpAny M A (call (.builtin bid) ([.ref x] ++ as) >>= fun v => pure (some v)) Q E s := wpAny_bind (wpAny_mono h (fun _ _ q => wpAny_pure q) fun _ _ q => q)
  simp only [callSpecialIfBound?, bindSpecialIfBound?]
  refine wpAny_holding (wpAny_bind (wpAny_bind (wpAny_bind (I.type.here ((looks_findIn X hs).here ?_)))))
  refine wpAny_bind (wpAny_askSetting (wpAny_ite ?_))
  split
  · rw [hb]
    exact wpAny_bind (wpAny_pure (wpAny_pure (by exact last)))
  · rw [hb]
    exact wpAny_tryCatch (wpAny_bind (wpAny_pure (wpAny_pure (by exact last))))
/-- a != b by object.__ne__ over the class's own __eq__ -/
theorem fm_ne {Q : Value → Shared → Prop} (hu : A.units + 1 < cLine) (F : Fr h₀ L s.heap m) (X₀ : K.In h₀) (I : InstAt s.heap x ox C od) (hb : Looks (model prog w) s.heap (typeOf b) tb) (hn : notFirst K C tb = true)
    (hne : findIn K (.ref C) "__ne__" = some (some (.builtin "object.__ne__"))) (heq : findIn K (.ref C) "__eq__" = some (some (.ref f))) (hf : isFn K (.ref f) = true) (hob : subIn K (.ref C) (.type "object") = some true)
    (h : wpAny (model prog w) A.in1 (call (.ref f) [.ref x, b]) (fun v s' => ∃ r, v = .bool r ∧ Q (.bool (!r)) s') E s) : wpAny (model prog w) A (richCompare .NotEq (.ref x) b) Q E s := by
  have X := X₀.keeps F.keep
  have one : wpAny (model prog w) A (tryCompare (.ref x) "__ne__" b) (fun r s' => ∃ v, r = some v ∧ Q v s') E s := by
    unfold tryCompare
    refine wpAny_bind (fm_ifBound X I hne PySem.F.cmp_object.ne.bind ?_)
    have sub : Looks (model prog w) s.heap (isInstance (.ref x) (.type "object")) true := (I.type (M := model prog w)).andThen (looks_subIn X hob)
    refine wpAny_call (codeAny_call_builtin PySem.F.cmp_object.ne.plain PySem.F.cmpEntry_ne (check_slot PySem.F.cmpKind_ne PySem.F.cmpSplit_ne sub (PySem.F.cmpArgs_ne _ _) ?_))
    unfold Builtin.«object.__ne__»
    refine wpAny_bind (wpAny_of_eq (a := ((Value.ref x : Value), [b])) (by first | rfl | (simp only [slotArgs]; rfl)) ?_)
    refine wpAny_bind (wpAny_cRoomFor hu ?_)
    refine wpAny_bind (ifBound_K X I heq hf (wpAny_mono h (fun v s' hv => ?_) fun _ _ e => e))
    obtain ⟨r, rfl, q⟩ := hv
    refine wpAny_bind (wpAny_truthy_bool ?_)
    exact wpAny_pure (wpAny_pure ⟨_, rfl, q⟩)
  unfold richCompare
  simp only [oneThing_ref]
  refine wpAny_holding (wpAny_bind (wpAny_cRoomFor (Nat.lt_of_succ_lt hu) ?_))
  refine wpAny_bind (I.type.here (wpAny_bind (hb.here ?_)))
  split
  · rename_i q
    have e : subIn K tb (.ref C) = some false := by
      rcases Bool.or_eq_true_iff.mp hn with e | e
      · rw [beq_iff_eq.mp e] at q; simp at q
      · exact beq_iff_eq.mp e
    refine wpAny_bind ((looks_subIn X e).here ?_)
    simp only [Bool.false_eq_true, if_false]
    refine wpAny_bind (wpAny_mono one (fun r s' z => ?_) fun _ _ e => e)
    obtain ⟨v, rfl, hq⟩ := z
    exact wpAny_pure hq
  · refine wpAny_bind (wpAny_pure ?_)
    simp only [Bool.false_eq_true, if_false]
    refine wpAny_bind (wpAny_mono one (fun r s' z => ?_) fun _ _ e => e)
    obtain ⟨v, rfl, hq⟩ := z
    exact wpAny_pure hq
end
end PySem.W
namespace Fm
open PySem PySem.Spec PyProof.Rows L2
/-- what the top says of a class with an own ==, the right side being of type t -/
structure EqC (K : PySem.W.Frag) (C f : Addr) : Prop where
  eq : PySem.W.findIn K (.ref C) "__eq__" = some (some (.ref f))
  fn : PySem.W.isFn K (.ref f) = true
  ne : PySem.W.findIn K (.ref C) "__ne__" = some (some (.builtin "object.__ne__"))
  ob : PySem.W.subIn K (.ref C) (.type "object") = some true
section
variable {X : Cx} {CX : CXT} {C f : Addr} {fd : FuncData} {ps : List Str} {sp : Sp} {k : Nat} {E : XK}
def rEqO (K : PySem.W.Frag) (C : Addr) (sp : Sp) (E : XK) : R2 := fun x y H Q => ∃ (a dx : Addr) (fs : List (Str × V)) (t : Value), x = .ref a ∧ H a = some (.ins C dx fs) ∧ TyX K H y t ∧ PySem.W.notFirst K C t = true ∧ sp [x, y] H (fun v H' => ∃ b, v = .bl b ∧ Q (.bl b) H') E
def rNeO (K : PySem.W.Frag) (C : Addr) (sp : Sp) (E : XK) : R2 := fun x y H Q => ∃ (a dx : Addr) (fs : List (Str × V)) (t : Value), x = .ref a ∧ H a = some (.ins C dx fs) ∧ TyX K H y t ∧ PySem.W.notFirst K C t = true ∧ sp [x, y] H (fun v H' => ∃ b, v = .bl b ∧ Q (.bl (!b)) H') E
theorem op_eqO (T : EqC X.K C f) (F : FnOk X.prog X.w X.K X.mg X.base CX k f fd ps sp) (hb : Binds X.K fd ps []) (hx : Passes CX X E) (hr : Room k X.A) : OpR X (compareOp .Eq) (rEqO X.K C sp E) := by
  intro pins s σ H x y u v Q I rx ry h
  obtain ⟨a, dx, fs, t, rfl, ha, ty, nf, q⟩ := h
  cases rx
  obtain ⟨mA, J, _⟩ := ins_get I.hok ha
  obtain ⟨od, J, _⟩ := J.look
  obtain ⟨m, hF⟩ := I.fr
  obtain ⟨P, Z, p, _⟩ := kit_of I ry ty
  show wpAny (model X.prog X.w) X.A (richCompare .Eq (.ref a) v) (EP X pins σ Q) X.xe s
  refine PySem.W.cmp_K (op := .Eq) (tb := t) hr.units0 hF I.ok.mod.kin J (Z.ty _ _ I.kIn p) nf T.eq T.fn ?_
  refine wpAny_mono (run_fn (vs := [.ref a, y]) F hr hb .nil hx I (.cons rfl (.cons ry .nil)) q) (fun w s' hw => ?_) fun _ _ e => e
  obtain ⟨z, H', I', rz, b, rfl, qb⟩ := hw
  cases rz
  exact ⟨.bl b, H', I', rfl, qb⟩
theorem op_neO (T : EqC X.K C f) (F : FnOk X.prog X.w X.K X.mg X.base CX k f fd ps sp) (hb : Binds X.K fd ps []) (hx : Passes CX X E) (hr : Room (k + 1) X.A) : OpR X (compareOp .NotEq) (rNeO X.K C sp E) := by
  intro pins s σ H x y u v Q I rx ry h
  obtain ⟨a, dx, fs, t, rfl, ha, ty, nf, q⟩ := h
  cases rx
  obtain ⟨mA, J, _⟩ := ins_get I.hok ha
  obtain ⟨od, J, _⟩ := J.look
  obtain ⟨m, hF⟩ := I.fr
  obtain ⟨P, Z, p, _⟩ := kit_of I ry ty
  have hu : X.A.units + 1 < cLine := hu_of hr
  show wpAny (model X.prog X.w) X.A (richCompare .NotEq (.ref a) v) (EP X pins σ Q) X.xe s
  refine PySem.W.fm_ne (tb := t) hu hF I.ok.mod.kin J (Z.ty _ _ I.kIn p) nf T.ne T.eq T.fn T.ob ?_
  have e0 : Env0 X.prog X.w X.K X.mg X.base X.A.in1 X.stack s H := by
    have e := I.env0
    exact ⟨e.frames, e.mod, e.bs, e.bsz, e.funs, e.frf, e.hok, e.bare⟩
  have r2 : Vals [V.ref a, y] [Value.ref a, v] := .cons rfl (.cons ry .nil)
  have hl := F.len _ _ _ _ q
  refine wpAny_call (codeAny_mono (F.run X.A.in1 X.stack s H ⟨[.ref a, v], []⟩ [.ref a, v] [.ref a, y] _ E hr.in1 e0 (by
    have := hb s [.ref a, v] I.kIn (by simpa using hl)
    simpa using this) r2 q) fun r s' hq => ?_)
  cases r with
  | error e => exact hx pins σ H s e s' I hq
  | ok fl =>
    cases fl with
    | ret w =>
      obtain ⟨z, H', I', rz, b, rfl, qb⟩ := I.after hq
      cases rz
      exact ⟨b, rfl, .bl (!b), H', I', rfl, qb⟩
    | next => exact False.elim hq
    | brk => exact False.elim hq
    | cont => exact False.elim hq
end
end Fm

namespace Fm
open PySem PySem.Spec PyProof.Rows L2
structure BiP (mg : Str → Option Value) : Prop extends Bi mg where
  sorted : mg "sorted" = none
/-! ### patterns as they are kept -/
structure Pat where
  rows : List (Str × List Key)
  grp : List Key
  pws : List (Str × Int)
deriving DecidableEq
/-- the pattern that comes of right rows, group and powers -/
def nmPw (ns : List Str) (p : Str × Int) : Str × Int := (ltr (ns.idxOf p.1), p.2)
def canP (ps : List (Str × List Key)) (g : List Key) (pw : List (Str × Int)) : Pat := ⟨ps.map (renR (namesP ps)), g.map (ren (namesP ps)), srt (pw.map (nmPw (namesP ps)))⟩
def PatAt (C : Addr) (H : Hp) (p : Addr) (T : Pat) : Prop := ∃ dx v1 v2 v3, H p = some (.ins C dx [("rows", v1), ("group", v2), ("powers", v3)]) ∧ Im H 3 v1 (.tuple (T.rows.map dPR)) ∧ Im H 1 v2 (dSyms T.grp) ∧ Im H 2 v3 (.tuple (T.pws.map dPow))
theorem PatAt.kp {C : Addr} {H H' : Hp} {p : Addr} {T : Pat} {ms : List Addr} (h : PatAt C H p T) (k : Kp ms H H') (hp : p ∉ ms) : PatAt C H' p T := by
  obtain ⟨dx, v1, v2, v3, h1, i1, i2, i3⟩ := h
  exact ⟨dx, v1, v2, v3, k.at_ _ _ h1 hp, Im.kp k i1, Im.kp k i2, Im.kp k i3⟩
structure PatCls (K : PySem.W.Frag) (mg : Str → Option Value) (C : Addr) : Prop where
  cl : Cls K C
  nR : NoAttr K C "rows"
  nG : NoAttr K C "group"
  nP : NoAttr K C "powers"
  mgC : mg "Pattern" = some (.ref C)
def spPatI (C : Addr) : Sp := fun vs H Q _ => ∃ (p dx W : Addr) (S S2 : Addr → Prop) (q q2 : Bool) (n n2 : Nat) (x y : V) (d dg : PyData) (es : List PyData) (ps : List (Str × List Key)) (g : List Key) (pw : List (Str × Int)), vs = [.ref p, x, y, .ref W] ∧ H p = some (.ins C dx []) ∧
  Dt S q H n x d ∧ RowD d es ∧ es.length ≤ 6 ∧ PRowsD es ps ∧ Dt S2 q2 H n2 y dg ∧ GrpD dg (namesP ps) g ∧ H W = some (.dK (pwKv pw)) ∧ PwOk (namesP ps) pw ∧ ∀ H', Kp [p] H H' → PatAt C H' p (canP ps g pw) → Q .non H'
theorem pwKv_keys (pw : List (Str × Int)) : (pwKv pw).map (·.1) = (pw.map (·.1)).map Sum.inr := by
  unfold pwKv; rw [List.map_map, List.map_map]; rfl
theorem inr_nd' {ks : List Str} (h : ks.Nodup) : (ks.map (Sum.inr : Str → Key)).Nodup := List.pairwise_map.mpr (List.Pairwise.imp (fun hab e => hab (Sum.inr.inj e)) h)
theorem pwKv_at {pw : List (Str × Int)} (nd : (pw.map (·.1)).Nodup) {i : Nat} {kk : Key} {vv : V} (h : (pwKv pw)[i]? = some (kk, vv)) : ∃ p, pw[i]? = some p ∧ kk = .inr p.1 ∧ vv = .int p.2 ∧ valV (pwKv pw) (.inr p.1) = some (.int p.2) := by
  have h0 := h
  unfold pwKv at h
  rw [List.getElem?_map] at h
  cases e : pw[i]? with
  | none => rw [e] at h; cases h
  | some p =>
    rw [e] at h
    cases h
    exact ⟨p, rfl, rfl, rfl, valV_at (by rw [pwKv_keys]; exact inr_nd' nd) h0⟩
theorem Kp.unlock {H H2 : Hp} {p : Addr} {kvs : List (Key × V)} {od : Obj} (hp : H p = some (.dK kvs)) (k2 : Kp [] (upd H p (.frz od (.dK kvs))) H2) : Kp [] H (upd H2 p (.dK kvs)) :=
  ⟨fun a o e _ => by
    by_cases z : a = p
    · rw [z, upd_same]; rw [z, hp] at e; exact e
    · rw [upd_ne z]; exact k2.at_ a o (by rw [upd_ne z]; exact e) (fun z => nomatch z), fun a xs e => by
    by_cases z : a = p
    · rw [z, hp] at e; cases e
    · rw [upd_ne z]; exact k2.tp a xs (by rw [upd_ne z]; exact e)⟩
theorem RwAt.kp {ms : List Addr} {H H' : Hp} {a : Addr} {xs : List V} (h : RwAt H a xs) (k : Kp ms H H') (hm : a ∉ ms) : RwAt H' a xs := h.elim (fun h => .inl (k.rd hm h)) fun h => .inr (k.tp _ _ h)
theorem PowAll.kp {ms : List Addr} {H H' : Hp} (k : Kp ms H H') : ∀ {xs : List V} {ps : List (Str × Int)}, PowAll H xs ps → PowAll H' xs ps
  | _, _, .nil => .nil
  | _, _, .cons ⟨t, e, h⟩ b => .cons ⟨t, e, k.tp _ _ h⟩ (b.kp k)
theorem PowAll.im {H : Hp} {n : Nat} : ∀ {xs : List V} {ps : List (Str × Int)}, PowAll H xs ps → (∀ p ∈ ps, p.1.length ≤ 1000000) → ImAll H (n + 1) xs (ps.map dPow)
  | _, _, .nil, _ => .nil
  | _, _, .cons ⟨t, e, h⟩ b, hl => by
    subst e
    exact .cons (.tup h ⟨by show 2 ≤ 1000000; decide, ⟨_, h⟩⟩ (.cons (.str _ (hl _ List.mem_cons_self)) (.cons (.int _) .nil))) (b.im fun x hx => hl x (List.mem_cons_of_mem _ hx))
theorem namesP_len {ps : List (Str × List Key)} (h : PsOk ps) : (namesP ps).length ≤ 24 := by
  have := foldR_len ps [] fun r hr => (h.2 r hr).2.2.1
  have := h.1
  simp only [List.length_nil] at *
  unfold namesP
  omega
theorem PwOk.len {ns : List Str} {pw : List (Str × Int)} (h : PwOk ns pw) : pw.length ≤ ns.length := by
  have := pigeon (pw.map (·.1)) ns h.1 fun x hx => by
    obtain ⟨p, hp, rfl⟩ := List.mem_map.mp hx
    exact (h.2 p hp).1
  rwa [List.length_map] at this
theorem GrpD.row {S : Addr → Prop} {q : Bool} {H : Hp} {n : Nat} {v : V} {d : PyData} {ns : List Str} {g : List Key} (h : GrpD d ns g) (hv : Dt S q H n v d) : ∃ a, v = .ref a ∧ RwAt H a (g.map kV) := by
  have hd : isRowD d = true := by rcases h.1 with rfl | rfl <;> rfl
  obtain ⟨ds, m, p, xs, rfl, rfl, rx, lx, _, ax, hds⟩ := hv.row hd
  have e' : ds = g.map keyD := by
    rcases hds with ⟨rfl, _⟩ | ⟨rfl, _⟩ <;> rcases h.1 with e | e <;> cases e <;> rfl
  subst e'
  have := ax.syms
  subst this
  exact ⟨p, rfl, rx⟩
section
variable {P : Program} {w : World} {K : PySem.W.Frag} {mg : Str → Option Value} {base : Heap}
theorem ok_is_powers (B : Bi mg) (D : Dfn K mg "is_powers" s_is_powers ["powers", "names"]) (G_is_integer : Has P w K mg base CX0 "is_integer" ["thing"] 1 spInt) :
    Has P w K mg base CX0 "is_powers" ["powers", "names"] 2 spIsPowers := by
  refine D.has sc_is_powers (fun vs H Q E h => ?_) (fun f cdv A outer s H vs Q E hr h => ?_)
  · obtain ⟨D, W, ns, pw, rfl, _⟩ := h; rfl
  · obtain ⟨D', W, ns, pw, rfl, hD, hW, ⟨nd, ok⟩, k⟩ := h
    have hu := hu_of hr
    refine ⟨_, (pss_cons (ps_if (pt_not (pt_val (pe_callB call_isi (by rfl) B.isinstance (by decide +kernel) (pa_cons (pv 0) (pa_cons (pe_bltn (v := .ty "dict") (by rfl) B.dict (by decide +kernel) rfl) pa_nil)))))
  (pss_one (ps_ret pe_bl))
  pss_nil)
  (pss_cons (ps_lock (ps_for PassesOwn.never rfl (pi_keys (pv 0)) (pg_name (i := 2) sc_is_powers.nd rfl (by first | exact Or.inl rfl | exact Or.inr rfl))
  (pss_cons (ps_if (PW.pt (pw_or (pt_not (pt_val (pe_callB call_isi (by rfl) B.isinstance (by decide +kernel) (pa_cons (pv 2) (pa_cons (pe_bltn (v := .ty "str") (by rfl) B.str (by decide +kernel) rfl) pa_nil))))) (pw_or1 (pt_cmp (pc_dnotin hu (pv 2) (pv 1)) rfl))))
  (pss_one (ps_ret pe_bl))
  pss_nil)
  (pss_one (ps_if (PW.pt (pw_or (pt_not (pt_val (pe_has G_is_integer (hr.mono (by omega)) (pa_cons (pe_dget hu (pv 0) (pv 2) (fun _ _ => rfl)) pa_nil)))) (pw_or1 (pt_not (pt_chain op_le op_le pe_int (pe_dget hu (pv 0) (pv 2) (fun _ _ => rfl)) pe_int)))))
  (pss_one (ps_ret pe_bl))
  pss_nil)))))
  (pss_one (ps_ret pe_bl)))), ?_⟩
    refine ⟨_, rfl, _, _, _, _, _, rfl, .ty _, .base (.dK hW), kit_ty (kb_dict (.dict [])), _, rfl, iteF ?_⟩
    refine ⟨W, _, hW, trivial, fun od => ?_⟩
    have sl : Sm H (upd H W (.frz od (.dK (pwKv pw)))) := Sm.lock hW (fun _ _ z => by cases z) (fun _ z => by cases z)
    have rD := sl.rd (.inl hD)
    refine ⟨_, rfl, W, od, rfl, .inl ⟨pwKv pw, upd_same, ?_⟩⟩
    refine for_it (walk_keys (kvs := pwKv pw)) (fun i σ H' => (∃ v, σ = [some (.ref W), some (.ref D'), v]) ∧ H' = upd H W (.frz od (.dK (pwKv pw)))) ⟨⟨_, rfl⟩, rfl⟩ (fun i σ H' _ h => by rw [h.2]; exact upd_same) ?_ ?_
    · rintro i xk σ H2 H3 hi ⟨⟨v, rfl⟩, e2⟩ ⟨rfl, kk, vv, hk, rfl⟩
      obtain ⟨p, hp, rfl, rfl, hv⟩ := pwKv_at nd hk
      obtain ⟨pin, p1, p100⟩ := ok p (List.mem_of_getElem? hp)
      rw [e2]
      have rW : Rd (upd H W (.frz od (.dK (pwKv pw)))) W (.dK (pwKv pw)) := .inr ⟨od, upd_same⟩
      refine ⟨_, rfl, _, _, _, _, _, rfl, .ty _, kV_ty (k := .inr p.1), kit_ty (kb_key (.inr p.1)), _, rfl, iteF ?_⟩
      refine ⟨_, rfl, _, rfl, D', _, rfl, .inl ⟨_, .inr p.1, rD, rfl, rfl⟩, _, rfl, ?_⟩
      rw [valV_nm, if_pos pin]
      refine iteF ?_
      refine ⟨_, rfl, _, rfl, W, _, rfl, .inl ⟨_, .inr p.1, rW, rfl, hv.symm⟩, (fun _ => True), true, 0, .int p.2, .int p.2, rfl, .int _, _, rfl, iteF ?_⟩
      refine ⟨_, rfl, _, rfl, W, _, rfl, .inl ⟨_, .inr p.1, rW, rfl, hv.symm⟩, _, _, rfl, rfl, _, rfl, ?_⟩
      rw [decide_eq_true p1]
      refine iteT ⟨_, _, rfl, rfl, _, rfl, ?_⟩
      rw [decide_eq_true p100]
      exact iteF ⟨⟨_, rfl⟩, rfl⟩
    · rintro σ H2 ⟨⟨v, rfl⟩, rfl⟩
      refine ⟨upd_same, ?_⟩
      exact k _ (Kp.unlock hW (Kp.refl _))
theorem ok_pat_init {f C : Addr} {fd : FuncData} (B : BiP mg) (F : Fun K "__init__" "Pattern.__init__" s_Pattern_init f fd) (U : PatCls K mg C) (G_checked_rows : Has P w K mg base CX0 "checked_rows" ["rows"] 3 spChecked) (G_names_in_order : Has P w K mg base CX0 "names_in_order" ["rows"] 2 spNames)
    (G_is_group : Has P w K mg base CX0 "is_group" ["group", "names"] 3 spIsGroup) (G_is_powers : Has P w K mg base CX0 "is_powers" ["powers", "names"] 2 spIsPowers) (G_renamed_rows : Has P w K mg base CX0 "renamed_rows" ["rows", "names"] 3 spRenRows) (G_renamed : Has P w K mg base CX0 "renamed" ["symbols", "names"] 2 spRenamed) :
    FnOk P w K mg base CX0 4 f fd ["self", "rows", "group", "powers"] (spPatI C) := by
  refine F.ok sc_Pattern_init (fun vs H Q E h => ?_) (fun cdv A outer s H vs Q E hr h => ?_)
  · obtain ⟨p, dx, W, S, S2, q, q2, n, n2, x, y, d, dg, es, ps, g, pw, rfl, _⟩ := h; rfl
  · obtain ⟨p, dx, W, S, S2, q, q2, n, n2, x, y, d, dg, es, ps, g, pw, rfl, hp, hx, rd, l6, hps, hy, hg, hW, hpw, k⟩ := h
    have hu := hu_of hr
    refine ⟨_, (pss_cons (ps_set (i := 4) sc_Pattern_init.nd rfl (by first | exact Or.inl rfl | exact Or.inr rfl) (pe_has G_checked_rows (hr.mono (by omega)) (pa_cons (pv 1) pa_nil)))
  (pss_cons (ps_if (pt_cmpR op_isN (pv 4) pe_non (nomark _))
  (pss_one ps_never)
  pss_nil)
  (pss_cons (ps_set (i := 5) sc_Pattern_init.nd rfl (by first | exact Or.inl rfl | exact Or.inr rfl) (pe_has G_names_in_order (hr.mono (by omega)) (pa_cons (pv 4) pa_nil)))
  (pss_cons (ps_if (pt_not (pt_val (pe_has G_is_group (hr.mono (by omega)) (pa_cons (pv 2) (pa_cons (pv 5) pa_nil)))))
  (pss_one ps_never)
  pss_nil)
  (pss_cons (ps_if (pt_not (pt_val (pe_has G_is_powers (hr.mono (by omega)) (pa_cons (pv 3) (pa_cons (pv 5) pa_nil)))))
  (pss_one ps_never)
  pss_nil)
  (pss_cons (ps_fld (pv 0) (pe_has G_renamed_rows (hr.mono (by omega)) (pa_cons (pv 4) (pa_cons (pv 5) pa_nil))) rfl)
  (pss_cons (ps_fld (pv 0) (pe_has G_renamed (hr.mono (by omega)) (pa_cons (pv 2) (pa_cons (pv 5) pa_nil))) rfl)
  (pss_one (ps_fld (pv 0) (pe_callTy call_tuple_of (by rfl) B.tuple (by decide +kernel) (pa_cons (pe_callB (cr_sortedSI hr.units) (by rfl) B.sorted (by decide +kernel) (pa_cons (pe_lock (pe_lc (own := [("name", 6)]) (g := gName 6) (by rfl) sc_Pattern_init.nd (pi_keys (pv 3)) (blkOk_by (own := [("name", 6)]) (N := N_Pattern_init) (sc := defScope s_Pattern_init) (by decide +kernel)) (fun _ _ _ _ _ => (pg_name (i := 6) sc_Pattern_init.nd rfl (by first | exact Or.inl rfl | exact Or.inr rfl))) (fun _ _ _ _ _ => pts_nil) (fun _ _ _ _ _ => (pe_tup (pa_cons (pe_dget hu (pv 5) (pv 6) (fun _ _ => rfl)) (pa_cons (pe_dget hu (pv 3) (pv 6) (fun _ _ => rfl)) pa_nil)))))) pa_nil)) pa_nil)) rfl))))))))), ?_⟩
    have okp : PsOk ps := ⟨by rw [← hps.len]; exact l6, hps.ok⟩
    generalize hns : namesP ps = ns at hg hpw
    refine ⟨_, rfl, S, q, n, x, d, es, ps, rfl, hx, rd, l6, hps, fun L xs H1 k1 _ hL ix => ?_⟩
    refine ⟨_, rfl, rfl, _, rfl, iteF ?_⟩
    refine ⟨_, rfl, L, xs, ps, rfl, hL, ix, okp, fun D H2 k2 _ hD => ?_⟩
    rw [hns] at hD
    have k12 := k1.trans k2
    refine ⟨_, rfl, _, rfl, S2, q2, n2, y, dg, D, ns, g, rfl, hy.keep k12, hD, hg, fun H3 k3 => ⟨_, rfl, iteF ?_⟩⟩
    have k13 := k12.trans k3
    refine ⟨_, rfl, _, rfl, D, W, ns, pw, rfl, k3.at_ _ _ hD (fun z => nomatch z), k13.at_ _ _ hW (fun z => nomatch z), hpw, fun H4 k4 => ⟨_, rfl, iteF ?_⟩⟩
    have k14 := k13.trans k4
    have k24 := k3.trans k4
    have n24 := namesP_len okp
    rw [hns] at n24
    have w24 := hpw.len
    obtain ⟨a, rfl, ra⟩ := hg.row hy
    have hap : a ∉ [p] := by
      intro z
      have z : a = p := by simpa using z
      subst z
      rcases ra with (r | ⟨o, r⟩) | r <;> rw [hp] at r <;> cases r
    have hWp : W ∉ [p] := by
      intro z
      have z : W = p := by simpa using z
      subst z
      rw [hp] at hW; cases hW
    have hp2 := k12.at_ _ _ hp (fun z => nomatch z)
    have hDp : D ∉ [p] := by
      intro z
      have z : D = p := by simpa using z
      subst z
      rw [hp2] at hD; cases hD
    refine ⟨_, rfl, _, rfl, L, D, xs, ps, ns, rfl, (k2.trans k24).at_ _ _ hL (fun z => nomatch z), ImAll.kp (k2.trans k24) ix, okp, k24.at_ _ _ hD (fun z => nomatch z), fun v1 H5 k5 i5 => ?_⟩
    have k15 := k14.trans k5
    have hp5 := k15.at_ _ _ hp (fun z => nomatch z)
    refine ⟨_, rfl, p, C, dx, [], rfl, hp5, U.cl, U.nR, by show 0 < 1000; decide, ?_⟩
    generalize h6 : upd H5 p (.ins C dx (putF "rows" v1 [])) = H6
    have k56 : Kp [p] H5 H6 := h6 ▸ Kp.set hp5 (fun _ z => by cases z) (by simp)
    have k16 : Kp [p] H H6 := k15.zero.trans k56
    have k26 : Kp [p] H2 H6 := (k24.trans k5).zero.trans k56
    have hp6 : H6 p = some (.ins C dx (putF "rows" v1 [])) := by rw [← h6]; exact upd_same
    refine ⟨_, rfl, _, rfl, a, D, g, ns, rfl, ra.kp k16 hap, by have := hg.2.1; omega, k26.at_ _ _ hD hDp, fun l H7 k7 h7 => ?_⟩
    have hp7 := k7.at_ _ _ hp6 (fun z => nomatch z)
    refine ⟨_, rfl, p, C, dx, _, rfl, hp7, U.cl, U.nG, by show 1 < 1000; decide, ?_⟩
    generalize h8 : upd H7 p (.ins C dx (putF "group" (.ref l) (putF "rows" v1 []))) = H8
    have k78 : Kp [p] H7 H8 := h8 ▸ Kp.set hp7 (fun _ z => by cases z) (by simp)
    have k18 : Kp [p] H H8 := (k16.trans k7.zero).trans k78
    have k28 : Kp [p] H2 H8 := (k26.trans k7.zero).trans k78
    have hp8 : H8 p = some (.ins C dx (putF "group" (.ref l) (putF "rows" v1 []))) := by rw [← h8]; exact upd_same
    have hW8 := k18.at_ _ _ hW hWp
    have hD8 := k28.at_ _ _ hD hDp
    refine ⟨W, _, hW8, trivial, fun od => ?_⟩
    have sl : Sm H8 (upd H8 W (.frz od (.dK (pwKv pw)))) := Sm.lock hW8 (fun _ _ z => by cases z) (fun _ z => by cases z)
    have rD := sl.rd (.inl hD8)
    refine ⟨_, rfl, W, od, rfl, .inl ⟨pwKv pw, upd_same, fun L2 hL2 => ?_⟩⟩
    refine lc_it (walk_keys (kvs := pwKv pw)) (fun j H' => ∃ zs, H' L2 = some (.lst zs) ∧ PowAll H' zs ((pw.take j).map (nmPw ns)) ∧ zs.length = j ∧ Kp [] (upd H8 W (.frz od (.dK (pwKv pw)))) H') ⟨[], upd_same, .nil, rfl, Kp.new hL2⟩ (fun j H' _ h => let ⟨_, _, _, _, kq⟩ := h; kq.at_ _ _ upd_same (fun z => nomatch z)) (fun j xk H9 H10 hj h9 hy => ?_) (fun H9 h9 => ?_)
    · obtain ⟨zs, hz, pz, lz, k9⟩ := h9
      obtain ⟨rfl, kk, vv, hk, rfl⟩ := hy
      obtain ⟨e, he, rfl, rfl, hv⟩ := pwKv_at hpw.1 hk
      have pin := (hpw.2 e (List.mem_of_getElem? he)).1
      have rD9 := k9.rd (fun z => nomatch z) rD
      have rW9 : Rd H10 W (.dK (pwKv pw)) := k9.rd (fun z => nomatch z) (.inr ⟨od, upd_same⟩)
      refine ⟨rfl, _, rfl, _, rfl, D, _, rfl, .inl ⟨_, .inr e.1, rD9, rfl, by rw [valV_nm, if_pos pin]⟩, _, rfl, _, rfl, W, _, rfl, .inl ⟨_, .inr e.1, rW9, rfl, hv.symm⟩, by show 2 ≤ sizeLine; decide, fun t ht => ?_⟩
      have hzt : upd H10 t (.tup [.str (ltr (ns.idxOf e.1)), .int e.2]) L2 = some (.lst zs) := (Kp.new (ms := []) ht).at_ _ _ hz (fun z => nomatch z)
      refine ⟨zs, hzt, ?_, zs ++ [.ref t], upd_same, ?_, by simp [lz], (k9.snoc ht).late hL2⟩
      · rw [lz]
        rw [show (pwKv pw).length = pw.length from List.length_map ..] at hj
        exact small1000 (by omega)
      · rw [take_snoc he, List.map_append]
        have kL : Kp [L2] (upd H10 t (.tup [.str (ltr (ns.idxOf e.1)), .int e.2])) (upd (upd H10 t (.tup [.str (ltr (ns.idxOf e.1)), .int e.2])) L2 (.lst (zs ++ [.ref t]))) := Kp.updL hzt (by simp)
        have ht7 := kL.tp _ _ (upd_same (H := H10) (a := t))
        exact (pz.kp ((Kp.new (ms := [L2]) ht).trans kL)).snoc ⟨t, rfl, ht7⟩
    · obtain ⟨zs, hz, pz, lz, k9⟩ := h9
      rw [show (pwKv pw).length = pw.length from List.length_map .., List.take_length] at pz
      refine ⟨k9.at_ _ _ upd_same (fun z => nomatch z), ?_⟩
      have L2W : L2 ≠ W := fun z => by rw [z, upd_same] at hL2; cases hL2
      have k89 : Kp [] H8 (upd H9 W (.dK (pwKv pw))) := Kp.unlock hW8 k9
      have hW9 := k9.at_ _ _ upd_same (fun z => nomatch z)
      have pz' : PowAll (upd H9 W (.dK (pwKv pw))) zs (pw.map (nmPw ns)) := pz.kp (ms := [W]) (Kp.set hW9 (fun _ z => by cases z) (by simp))
      refine ⟨L2, zs, _, rfl, SqL.of (by rw [upd_ne L2W]; exact hz), pz', fun dd ys hdd hys => ?_⟩
      refine ⟨dd, ys, rfl, .inl ⟨SqL.of upd_same, fun tt htt => ?_⟩⟩
      generalize h10 : upd (upd (upd H9 W (.dK (pwKv pw))) dd (.lst ys)) tt (.tup ys) = H10
      have k810 : Kp [] H8 H10 := h10 ▸ (k89.snoc hdd).snoc htt
      have hp10 := k810.at_ _ _ hp8 (fun z => nomatch z)
      refine ⟨_, rfl, p, C, dx, _, rfl, hp10, U.cl, U.nP, by show 2 < 1000; decide, ?_⟩
      have kx : Kp [p] H10 (upd H10 p (.ins C dx (putF "powers" (.ref tt) (putF "group" (.ref l) (putF "rows" v1 []))))) := Kp.set hp10 (fun _ z => by cases z) (by simp)
      have k7x := (k78.trans k810.zero).trans kx
      have kdx : Kp [p] (upd H9 W (.dK (pwKv pw))) (upd H10 p (.ins C dx (putF "powers" (.ref tt) (putF "group" (.ref l) (putF "rows" v1 []))))) := (h10 ▸ (Kp.new hdd).snoc htt : Kp [p] _ H10).trans kx
      have htt10 : H10 tt = some (.tup ys) := by rw [← h10]; exact upd_same
      refine k _ ((k18.trans k810.zero).trans kx) ⟨dx, v1, .ref l, .ref tt, upd_same, ?_, ?_, ?_⟩
      · show Im _ 3 v1 (.tuple ((ps.map (renR (namesP ps))).map dPR))
        rw [hns]
        exact Im.kp ((k56.trans k7.zero).trans k7x) i5
      · show Im _ 1 (.ref l) (dSyms (g.map (ren (namesP ps))))
        rw [hns]
        have hl := k7x.tp _ _ h7
        refine .tup hl ⟨by rw [List.length_map, List.length_map]; have := hg.2.1; omega, ⟨_, hl⟩⟩ (dt_syms fun y hy => ?_)
        obtain ⟨y0, hy0, rfl⟩ := List.mem_map.mp hy
        exact ren_ok (hg.2.2.1 y0 hy0)
      · show Im _ 2 (.ref tt) (.tuple ((srt (pw.map (nmPw (namesP ps)))).map dPow))
        rw [hns]
        have ht := kx.tp _ _ htt10
        have ly := hys.len
        rw [srt_len, List.length_map] at ly
        refine .tup ht ⟨by omega, ⟨_, ht⟩⟩ ((hys.kp kdx).im fun e he => ?_)
        obtain ⟨e0, _, rfl⟩ := List.mem_map.mp (srt_mem.mp he)
        show (ltr _).length ≤ 1000000
        unfold ltr; show 1 ≤ 1000000; decide
end
end Fm

namespace Fm
open PySem PySem.Spec PyProof.Rows L2
/-! ### patterns as data: equal as Python sees them -/
def SymLay : Key → Prop
  | .inl _ => True
  | .inr s => PyData.strOk s = true
structure Pat.Ok (T : Pat) : Prop where
  rows : ∀ r ∈ T.rows, IsNm r.1 ∧ ∀ k ∈ r.2, SymLay k
  grp : ∀ k ∈ T.grp, SymLay k
  pws : ∀ p ∈ T.pws, PyData.strOk p.1 = true
theorem ltr_ok {i : Nat} (h : i < 24) : PyData.strOk (ltr i) = true := by
  unfold PyData.strOk
  rw [Array.all_eq_true']
  intro c hc
  have : c = 97 + i := by simpa [ltr] using hc
  simp
  omega
theorem ren_lay {ns : List Str} {k : Key} (hn : ns.length ≤ 24) (h : ∀ s, k = .inr s → s ∈ ns) : SymLay (ren ns k) := by
  cases k with
  | inl i => trivial
  | inr s =>
    rw [ren_inr, if_pos (h s rfl)]
    exact ltr_ok (Nat.lt_of_lt_of_le (List.idxOf_lt_length_of_mem (h s rfl)) hn)
theorem canP_ok {ps : List (Str × List Key)} {g : List Key} {pw : List (Str × Int)} (ok : PsOk ps) (hg : ∀ s, Sum.inr s ∈ g → s ∈ namesP ps) (hw : PwOk (namesP ps) pw) : (canP ps g pw).Ok := by
  have n24 := namesP_len ok
  refine ⟨fun r hr => ?_, fun k hk => ?_, fun p hp => ?_⟩
  · obtain ⟨r0, h0, rfl⟩ := List.mem_map.mp hr
    refine ⟨(ok.2 r0 h0).1, fun k hk => ?_⟩
    obtain ⟨k0, hk0, rfl⟩ := List.mem_map.mp hk
    exact ren_lay n24 fun s e => foldR_in ps [] s r0 h0 (e ▸ hk0)
  · obtain ⟨k0, hk0, rfl⟩ := List.mem_map.mp hk
    exact ren_lay n24 fun s e => hg s (e ▸ hk0)
  · obtain ⟨e0, h0, rfl⟩ := List.mem_map.mp (srt_mem.mp hp)
    exact ltr_ok (Nat.lt_of_lt_of_le (List.idxOf_lt_length_of_mem (hw.2 e0 h0).1) n24)
theorem eqv_key (a b : Key) : PyData.eqv (keyD a) (keyD b) = decide (a = b) := by
  cases a <;> cases b <;> simp only [keyD, PyData.eqv]
  · rename_i x y
    by_cases h : x = y
    · subst h; simp
    · simp [h]
  · simp
  · simp
  · rename_i x y
    by_cases h : x = y
    · subst h; simp
    · simp [h]
theorem eqv_keys : ∀ a b : List Key, PyData.eqvAll (a.map keyD) (b.map keyD) = decide (a = b)
  | [], [] => by simp [PyData.eqvAll]
  | [], _ :: _ => by simp [PyData.eqvAll]
  | _ :: _, [] => by simp [PyData.eqvAll]
  | x :: a, y :: b => by
    simp only [List.map_cons, PyData.eqvAll, eqv_key, eqv_keys a b]
    by_cases h : x = y
    · subst h; simp
    · simp [h]
theorem eqv_syms (a b : List Key) : PyData.eqv (dSyms a) (dSyms b) = decide (a = b) := by
  simp only [dSyms, PyData.eqv, eqv_keys]
theorem eqv_pr (t u : Str × List Key) : PyData.eqv (dPR t) (dPR u) = decide (t = u) := by
  simp only [dPR, PyData.eqv, PyData.eqvAll, eqv_syms]
  by_cases h : t.1 = u.1
  · by_cases h' : t.2 = u.2
    · have : t = u := Prod.ext h h'
      subst this; simp
    · have : t ≠ u := fun z => h' (by rw [z])
      simp [h', this]
  · have : t ≠ u := fun z => h (by rw [z])
    simp [h, this]
theorem eqv_prsL : ∀ ts us : List (Str × List Key), PyData.eqvAll (ts.map dPR) (us.map dPR) = decide (ts = us)
  | [], [] => by simp [PyData.eqvAll]
  | [], _ :: _ => by simp [PyData.eqvAll]
  | _ :: _, [] => by simp [PyData.eqvAll]
  | t :: ts, u :: us => by
    simp only [List.map_cons, PyData.eqvAll, eqv_pr, eqv_prsL ts us]
    by_cases h : t = u
    · subst h; simp
    · simp [h]
theorem eqv_prs (ts us : List (Str × List Key)) : PyData.eqv (.tuple (ts.map dPR)) (.tuple (us.map dPR)) = decide (ts = us) := by
  simp only [PyData.eqv, eqv_prsL]
theorem eqv_pw (t u : Str × Int) : PyData.eqv (dPow t) (dPow u) = decide (t = u) := by
  simp only [dPow, PyData.eqv, PyData.eqvAll]
  by_cases h : t.1 = u.1
  · by_cases h' : t.2 = u.2
    · have : t = u := Prod.ext h h'
      subst this; simp
    · have : t ≠ u := fun z => h' (by rw [z])
      simp [h', this]
  · have : t ≠ u := fun z => h (by rw [z])
    simp [h, this]
theorem eqv_pwsL : ∀ ts us : List (Str × Int), PyData.eqvAll (ts.map dPow) (us.map dPow) = decide (ts = us)
  | [], [] => by simp [PyData.eqvAll]
  | [], _ :: _ => by simp [PyData.eqvAll]
  | _ :: _, [] => by simp [PyData.eqvAll]
  | t :: ts, u :: us => by
    simp only [List.map_cons, PyData.eqvAll, eqv_pw, eqv_pwsL ts us]
    by_cases h : t = u
    · subst h; simp
    · simp [h]
theorem eqv_pws (ts us : List (Str × Int)) : PyData.eqv (.tuple (ts.map dPow)) (.tuple (us.map dPow)) = decide (ts = us) := by
  simp only [PyData.eqv, eqv_pwsL]
theorem lay_key : ∀ {k : Key}, SymLay k → (keyD k).canLay0 = true
  | .inl _, _ => by simp [keyD, PyData.canLay0]
  | .inr _, h => by simp only [keyD, PyData.canLay0]; exact h
theorem lay_keys : ∀ {a : List Key}, (∀ k ∈ a, SymLay k) → PyData.canLayAll0 (a.map keyD) = true
  | [], _ => by simp [PyData.canLayAll0]
  | x :: a, h => by
    simp only [List.map_cons, PyData.canLayAll0, lay_key (h x List.mem_cons_self), lay_keys fun k hk => h k (List.mem_cons_of_mem _ hk), Bool.and_self]
theorem lay_prs : ∀ {ts : List (Str × List Key)}, (∀ r ∈ ts, IsNm r.1 ∧ ∀ k ∈ r.2, SymLay k) → PyData.canLayAll0 (ts.map dPR) = true
  | [], _ => by simp [PyData.canLayAll0]
  | t :: ts, h => by
    have g := h t List.mem_cons_self
    simp only [List.map_cons, PyData.canLayAll0, dPR, dSyms, PyData.canLay0, strOk_nm g.1, lay_keys g.2, lay_prs fun x hx => h x (List.mem_cons_of_mem _ hx), Bool.and_self]
theorem lay_pws : ∀ {ts : List (Str × Int)}, (∀ p ∈ ts, PyData.strOk p.1 = true) → PyData.canLayAll0 (ts.map dPow) = true
  | [], _ => by simp [PyData.canLayAll0]
  | t :: ts, h => by
    simp only [List.map_cons, PyData.canLayAll0, dPow, PyData.canLay0, h t List.mem_cons_self, lay_pws fun x hx => h x (List.mem_cons_of_mem _ hx), Bool.and_self]
theorem dep_keys : ∀ a : List Key, PyData.depthAll (a.map keyD) = 0
  | [] => by simp [PyData.depthAll]
  | .inl x :: a => by simp [PyData.depthAll, keyD, PyData.depth, dep_keys a]
  | .inr x :: a => by simp [PyData.depthAll, keyD, PyData.depth, dep_keys a]
theorem dep_prs : ∀ ts : List (Str × List Key), PyData.depthAll (ts.map dPR) ≤ 2
  | [] => by simp [PyData.depthAll]
  | t :: ts => by
    have := dep_prs ts
    simp only [List.map_cons, PyData.depthAll, dPR, dSyms, PyData.depth, dep_keys]
    omega
theorem dep_pws : ∀ ts : List (Str × Int), PyData.depthAll (ts.map dPow) ≤ 1
  | [] => by simp [PyData.depthAll]
  | t :: ts => by
    have := dep_pws ts
    simp only [List.map_cons, PyData.depthAll, dPow, PyData.depth]
    omega
theorem lay_tup {ds : List PyData} (h : PyData.canLayAll0 ds = true) : (PyData.tuple ds).canLay0 = true := by simp only [PyData.canLay0, h]
theorem shaped_of {ds : List PyData} (h : PyData.canLayAll0 ds = true) (hd : PyData.depthAll ds ≤ 2) : SeqAt.shaped (.tuple ds) = true := by
  refine Bool.and_eq_true_iff.mpr ⟨by simp only [PyData.canLay0, h], decide_eq_true ?_⟩
  simp only [PyData.depth]
  omega
def spPatEq (C : Addr) : Sp := fun vs H Q _ => ∃ (p : Addr) (y : V) (T : Pat), vs = [.ref p, y] ∧ PatAt C H p T ∧ T.Ok ∧
  ((∃ p' U, y = .ref p' ∧ PatAt C H p' U ∧ U.Ok ∧ Q (.bl (decide (T = U))) H) ∨ ∃ S q n d, Dt S q H n y d ∧ Q (.bl false) H)
section
variable {P : Program} {w : World} {K : PySem.W.Frag} {mg : Str → Option Value} {base : Heap}
theorem ok_pat_eq {f C : Addr} {fd : FuncData} (B : Bi mg) (F : Fun K "__eq__" "Pattern.__eq__" s_Pattern_eq f fd) (U : PatCls K mg C) (X : InsX K C) : FnOk P w K mg base CX0 1 f fd ["self", "other"] (spPatEq C) := by
  refine F.ok sc_Pattern_eq (fun vs H Q E h => ?_) (fun cdv A outer s H vs Q E hr h => ?_)
  · obtain ⟨p, y, T, rfl, _⟩ := h; rfl
  · obtain ⟨p, y, T, rfl, ⟨dx, v1, v2, v3, hp, i1, i2, i3⟩, g, h⟩ := h
    refine ⟨_, (pss_cons (ps_if (pt_not (pt_val (pe_callB call_isi (by rfl) B.isinstance (by decide +kernel) (pa_cons (pv 1) (pa_cons (pe_glob (v := .ref C) rfl U.mgC rfl) pa_nil)))))
  (pss_one (ps_ret pe_bl))
  pss_nil)
  (pss_one (ps_ret (pe_and (pe_cmpR (op_eqD hr.units) (pe_fld (pv 0) rfl) (pe_fld (pv 1) rfl) (nomark _)) (pe_and (pe_cmpR (op_eqD hr.units) (pe_fld (pv 0) rfl) (pe_fld (pv 1) rfl) (nomark _)) (pe_one (pe_cmpR (op_eqD hr.units) (pe_fld (pv 0) rfl) (pe_fld (pv 1) rfl) (nomark _)))))))), ?_⟩
    rcases h with ⟨p', T', rfl, ⟨dx', w1, w2, w3, hp', j1, j2, j3⟩, g', q⟩ | ⟨S, qq, n, d, hd, q⟩
    · refine ⟨_, rfl, _, _, _, _, _, rfl, .own C, X.ty hp', kit_self, _, rfl, ?_⟩
      refine iteT (B := True) ?_
      refine ⟨_, rfl, p, C, dx, _, _, rfl, hp, U.cl, U.nR, rfl, _, rfl, p', C, dx', _, _, rfl, hp', U.cl, U.nR, rfl, ?_⟩
      refine ⟨_, _, i1.dp (lay_tup (lay_prs g.rows)), j1.dp (lay_tup (lay_prs g'.rows)), shaped_of (lay_prs g.rows) (dep_prs _), shaped_of (lay_prs g'.rows) (dep_prs _), ?_⟩
      rw [eqv_prs]
      by_cases e1 : T.rows = T'.rows
      · rw [decide_eq_true e1]
        refine ⟨_, rfl, iteT ?_⟩
        refine ⟨_, rfl, p, C, dx, _, _, rfl, hp, U.cl, U.nG, rfl, _, rfl, p', C, dx', _, _, rfl, hp', U.cl, U.nG, rfl, ?_⟩
        refine ⟨_, _, i2.dp (lay_tup (lay_keys g.grp)), j2.dp (lay_tup (lay_keys g'.grp)), shaped_of (lay_keys g.grp) (by rw [dep_keys]; decide), shaped_of (lay_keys g'.grp) (by rw [dep_keys]; decide), ?_⟩
        rw [eqv_syms]
        by_cases e2 : T.grp = T'.grp
        · rw [decide_eq_true e2]
          refine ⟨_, rfl, iteT ?_⟩
          refine ⟨_, rfl, p, C, dx, _, _, rfl, hp, U.cl, U.nP, rfl, _, rfl, p', C, dx', _, _, rfl, hp', U.cl, U.nP, rfl, ?_⟩
          refine ⟨_, _, i3.dp (lay_tup (lay_pws g.pws)), j3.dp (lay_tup (lay_pws g'.pws)), shaped_of (lay_pws g.pws) (Nat.le_trans (dep_pws _) (by decide)), shaped_of (lay_pws g'.pws) (Nat.le_trans (dep_pws _) (by decide)), ?_⟩
          rw [eqv_pws]
          have e : decide (T = T') = decide (T.pws = T'.pws) := by
            by_cases e3 : T.pws = T'.pws
            · rw [decide_eq_true e3, decide_eq_true]
              cases T; cases T'
              cases e1; cases e2; cases e3; rfl
            · rw [decide_eq_false e3, decide_eq_false]
              exact fun z => e3 (by rw [z])
          rw [← e]; exact q
        · rw [decide_eq_false e2]
          rw [decide_eq_false (fun z => e2 (by rw [z]))] at q
          exact ⟨_, rfl, iteF q⟩
      · rw [decide_eq_false e1]
        rw [decide_eq_false (fun z => e1 (by rw [z]))] at q
        exact ⟨_, rfl, iteF q⟩
    · exact ⟨_, rfl, _, _, _, _, _, rfl, .own C, hd.ty, X.datD d, _, rfl, iteF (A := True) q⟩
end
end Fm

namespace Fm
open PySem PySem.Spec PyProof.Rows L2 RZ
/-! ### symbols sent to targets -/
def look (m : List (Str × Key)) (s : Str) : Option Key := (m.find? fun p => p.1 = s).map (·.2)
def kvM (m : List (Str × Key)) : List (Key × V) := m.map fun p => (.inr p.1, kV p.2)
def stepB (m : List (Str × Key)) (k t : Key) : Option (List (Str × Key)) :=
  match k with
  | .inl i => if Sum.inl i = t then some m else none
  | .inr s => match look m s with
    | some v => if v = t then some m else none
    | none => some (m ++ [(s, t)])
def goB (m : List (Str × Key)) : List Key → List Key → Option (List (Str × Key))
  | k :: ks, t :: ts => match stepB m k t with
    | some m' => goB m' ks ts
    | none => none
  | _, _ => some m
def bnd (m : List (Str × Key)) (ks ts : List Key) : Option (List (Str × Key)) := if ks.length = ts.length then goB m ks ts else none
theorem kvM_val (s : Str) : ∀ m : List (Str × Key), valV (kvM m) (.inr s) = (look m s).map kV
  | [] => rfl
  | p :: m => by
    by_cases h : p.1 = s
    · unfold valV kvM look
      rw [List.map_cons, List.find?_cons_of_pos (by simp [h]), List.find?_cons_of_pos (by simp [h])]; rfl
    · have ih := kvM_val s m
      unfold valV kvM look at ih ⊢
      rw [List.map_cons, List.find?_cons_of_neg (by simp [h]), List.find?_cons_of_neg (by simp [h])]
      exact ih
theorem walk_zipT {K : PySem.W.Frag} {a b : Addr} {xs ys : List V} {n : Nat} (hn : n = min xs.length ys.length) : Walk (ItzT K a b) n (fun H => SqT K H a xs ∧ SqT K H b ys) (YPair (fun i => xs[i]?) (fun i => ys[i]?)) := by
  subst hn
  refine ⟨fun i H hi q => ?_, fun H q => ⟨xs, ys, q.1, q.2, by omega⟩, fun i H v H' hi q y => ?_⟩
  · exact ⟨xs, ys, _, _, q.1, q.2, List.getElem?_eq_getElem (show i < xs.length by omega), List.getElem?_eq_getElem (show i < ys.length by omega)⟩
  · obtain ⟨T, x, z, h1, h2, h3, h4, h5⟩ := y
    exact ⟨T, x, z, h1, h2, h3, h4 _ q.1, h5 _ q.2⟩
theorem goB_drop {ks ts : List Key} {i : Nat} {k t : Key} {m : List (Str × Key)} (hk : ks[i]? = some k) (ht : ts[i]? = some t) : goB m (ks.drop i) (ts.drop i) = match stepB m k t with | some m' => goB m' (ks.drop (i + 1)) (ts.drop (i + 1)) | none => none := by
  obtain ⟨h1, e1⟩ := List.getElem?_eq_some_iff.mp hk
  obtain ⟨h2, e2⟩ := List.getElem?_eq_some_iff.mp ht
  rw [List.drop_eq_getElem_cons h1, List.drop_eq_getElem_cons h2, e1, e2]; rfl
theorem kvM_keys (m : List (Str × Key)) : (kvM m).length = m.length := List.length_map ..
theorem kV_inj {k t : Key} (h : kV k = kV t) : k = t := by cases k <;> cases t <;> cases h <;> rfl
theorem kV_ne {k t : Key} : (!decide (kV k = kV t)) = !decide (k = t) := by
  by_cases e : k = t
  · rw [decide_eq_true e, decide_eq_true (congrArg kV e)]
  · rw [decide_eq_false e, decide_eq_false (fun z => e (kV_inj z))]
theorem look_put {m : List (Str × Key)} {s : Str} {t : Key} (h : look m s = none) : putK (kvM m) (.inr s) (kV t) = kvM (m ++ [(s, t)]) := by
  rw [putK_new _ (by rw [kvM_val, h]; rfl)]
  unfold kvM
  rw [List.map_append]; rfl
def spBound : Sp := fun vs H Q _ => ∃ (D a b : Addr) (m : List (Str × Key)) (ks ts : List Key), vs = [.ref D, .ref a, .ref b] ∧ Rd H D (.dK (kvM m)) ∧ m.length ≤ 1000 ∧ H a = some (.tup (ks.map kV)) ∧ H b = some (.tup (ts.map kV)) ∧ ks.length ≤ 1000 ∧
  (bnd m ks ts = none → ∀ H', Kp [] H H' → Q .non H') ∧ (∀ m' W H', bnd m ks ts = some m' → Kp [] H H' → H W = none → H' W = some (.dK (kvM m')) → Q (.ref W) H')
section
variable {P : Program} {w : World} {K : PySem.W.Frag} {mg : Str → Option Value} {base : Heap}
theorem ok_bound (B : Bi mg) (hzip : mg "zip" = none) (D : Dfn K mg "bound" s_bound ["known", "symbols", "targets"]) : Has P w K mg base CX0 "bound" ["known", "symbols", "targets"] 2 spBound := by
  refine D.has sc_bound (fun vs H Q E h => ?_) (fun f cdv A outer s H vs Q E hr h => ?_)
  · obtain ⟨D, a, b, m, ks, ts, rfl, _⟩ := h; rfl
  · obtain ⟨D', a, b, m, ks, ts, rfl, hD, lm, ha, hb, lk, kn, ky⟩ := h
    have hu := hu_of hr
    refine ⟨_, (pss_cons (ps_if (pt_cmpR op_ne (pe_callB call_len (by rfl) B.len PySem.boot_len (pa_cons (pv 1) pa_nil)) (pe_callB call_len (by rfl) B.len PySem.boot_len (pa_cons (pv 2) pa_nil)) (nomark _))
  (pss_one (ps_ret pe_non))
  pss_nil)
  (pss_cons (ps_set (i := 3) sc_bound.nd rfl (by first | exact Or.inl rfl | exact Or.inr rfl) (pe_callTy call_dictD (by rfl) B.dict (by decide +kernel) (pa_cons (pv 0) pa_nil)))
  (pss_cons (ps_for PassesOwn.never rfl (pi_zipA rfl hzip (pa_cons (pv 1) (pa_cons (pv 2) pa_nil))) (pg_tup rfl (pgs_cons (pg_name (i := 4) sc_bound.nd rfl (by first | exact Or.inl rfl | exact Or.inr rfl)) (pgs_cons (pg_name (i := 5) sc_bound.nd rfl (by first | exact Or.inl rfl | exact Or.inr rfl)) pgs_nil)))
  (pss_one (ps_if (pt_not (pt_val (pe_callB call_isi (by rfl) B.isinstance (by decide +kernel) (pa_cons (pv 4) (pa_cons (pe_bltn (v := .ty "str") (by rfl) B.str (by decide +kernel) rfl) pa_nil)))))
  (pss_one (ps_if (pt_cmpR op_ne (pv 4) (pv 5) (nomark _))
  (pss_one (ps_ret pe_non))
  pss_nil))
  (pss_one (ps_if (pt_cmpR op_ne (pe_dsetd (pv 3) (pv 4) (pv 5) ⟨rfl, rfl, rfl, rfl⟩) (pv 5) (nomark _))
  (pss_one (ps_ret pe_non))
  pss_nil)))))
  (pss_one (ps_ret (pv 3)))))), ?_⟩
    refine ⟨_, rfl, _, _, rfl, .inr ⟨_, .inl (.inl ha), rfl⟩, _, rfl, _, _, rfl, .inr ⟨_, .inl (.inl hb), rfl⟩, rfl, _, rfl, ?_⟩
    refine ite2 (fun hne => ?_) (fun heq => ?_)
    · refine kn ?_ H (Kp.refl _)
      unfold bnd
      rw [if_neg]
      intro e
      rw [List.length_map, List.length_map, e] at hne
      simp at hne
    · have hl : ks.length = ts.length := by
        by_cases e : ks.length = ts.length
        · exact e
        · exfalso
          refine heq ?_
          rw [List.length_map, List.length_map]
          simp
          omega
      refine ⟨_, rfl, D', _, rfl, hD, fun W hW => ?_⟩
      have k0 : Kp [] H (upd H W (.dK (kvM m))) := Kp.new hW
      refine ⟨_, rfl, _, rfl, a, b, ks.map kV, ts.map kV, rfl, .inr ⟨.inl (.inl (k0.tp _ _ ha)), .inl (.inl (k0.tp _ _ hb)), ?_⟩⟩
      refine for_it (walk_zipT (xs := ks.map kV) (ys := ts.map kV) rfl) (fun i σ H' => (∃ o4 o5, σ = [some (.ref D'), some (.ref a), some (.ref b), some (.ref W), o4, o5]) ∧ Kp [] H H' ∧ ∃ mi, H' W = some (.dK (kvM mi)) ∧ mi.length ≤ m.length + i ∧ goB m ks ts = goB mi (ks.drop i) (ts.drop i)) ⟨⟨_, _, rfl⟩, k0, m, upd_same, Nat.le_refl _, rfl⟩ (fun i σ H' _ h => ⟨.inl (.inl (h.2.1.tp _ _ ha)), .inl (.inl (h.2.1.tp _ _ hb))⟩) ?_ ?_
      · rintro i v σ H2 H3 hi ⟨⟨o4, o5, rfl⟩, k2, mi, h2, l2, g2⟩ ⟨T, x, y, rfl, hT, rfl, hx, hy⟩
        have hx : (ks.map kV)[i]? = some x := hx
        have hy : (ts.map kV)[i]? = some y := hy
        rw [List.getElem?_map] at hx hy
        cases ek : ks[i]? with
        | none => rw [ek] at hx; cases hx
        | some k1 =>
          rw [ek] at hx
          cases hx
          cases et : ts[i]? with
          | none => rw [et] at hy; cases hy
          | some t1 =>
            rw [et] at hy
            cases hy
            rw [goB_drop ek et] at g2
            have k3 := k2.snoc (o := .tup [kV k1, kV t1]) hT
            have h3 : upd H2 T (.tup [kV k1, kV t1]) W = some (.dK (kvM mi)) := (Kp.new (ms := []) hT).at_ _ _ h2 (fun z => nomatch z)
            have i1000 : i < 1000 := by
              have := (List.getElem?_eq_some_iff.mp ek).1
              omega
            refine ⟨T, _, rfl, SqT.of upd_same, rfl, _, _, rfl, _, _, rfl, rfl, ?_⟩
            refine ⟨_, rfl, _, _, _, _, _, rfl, .ty _, kV_ty, kit_ty (kb_key k1), _, rfl, ?_⟩
            have next : ∀ {H' : Hp} {m' : List (Str × Key)}, stepB mi k1 t1 = some m' → Kp [] H H' → H' W = some (.dK (kvM m')) → m'.length ≤ m.length + (i + 1) → (∃ o4 o5, [some (V.ref D'), some (.ref a), some (.ref b), some (.ref W), some (kV k1), some (kV t1)] = [some (V.ref D'), some (.ref a), some (.ref b), some (.ref W), o4, o5]) ∧ Kp [] H H' ∧ ∃ mi, H' W = some (.dK (kvM mi)) ∧ mi.length ≤ m.length + (i + 1) ∧ goB m ks ts = goB mi (ks.drop (i + 1)) (ts.drop (i + 1)) := fun {H' m'} e k' h' l' => ⟨⟨_, _, rfl⟩, k', m', h', l', by rw [g2, e]⟩
            have stop : stepB mi k1 t1 = none → ∀ H', Kp [] H H' → Q .non H' := fun e H' k' => kn (by unfold bnd; rw [if_pos hl, g2, e]) H' k'
            cases k1 with
            | inl iy =>
              refine iteT ?_
              refine ⟨_, rfl, _, rfl, by cases t1 <;> rfl, _, rfl, ?_⟩
              rw [kV_ne]
              by_cases e : (Sum.inl iy : Key) = t1
              · rw [decide_eq_true e]
                exact iteF (next (by unfold stepB; exact if_pos e) k3 h3 (by omega))
              · rw [decide_eq_false e]
                exact iteT (stop (by unfold stepB; exact if_neg e) _ k3)
            | inr sy =>
              refine iteF ?_
              refine ⟨_, rfl, W, rfl, .inl ⟨_, .inl h3⟩, _, rfl, _, rfl, kvM mi, .inr sy, h3, rfl, by rw [kvM_keys]; exact Nat.lt_of_le_of_lt (show mi.length ≤ 100000 by omega) (by decide), fun v hv => ?_, fun hn => ?_⟩
              · rw [kvM_val] at hv
                cases el : look mi sy with
                | none => rw [el] at hv; cases hv
                | some v0 =>
                  rw [el] at hv
                  have hv : v = kV v0 := (Option.some.inj hv).symm
                  subst hv
                  refine ⟨_, rfl, by cases v0 <;> cases t1 <;> rfl, _, rfl, ?_⟩
                  rw [kV_ne]
                  by_cases e : v0 = t1
                  · rw [decide_eq_true e]
                    exact iteF (next (by unfold stepB; simp only [el]; exact if_pos e) k3 h3 (by omega))
                  · rw [decide_eq_false e]
                    exact iteT (stop (by unfold stepB; simp only [el]; exact if_neg e) _ k3)
              · rw [kvM_val] at hn
                have el : look mi sy = none := by
                  cases e : look mi sy with
                  | none => rfl
                  | some v0 => rw [e] at hn; cases hn
                rw [look_put el]
                refine ⟨_, rfl, by cases t1 <;> rfl, _, rfl, ?_⟩
                rw [kV_ne, decide_eq_true rfl]
                exact iteF (next (m' := mi ++ [(sy, t1)]) (by unfold stepB; simp only [el]) (k3.late hW) upd_same (by rw [List.length_append, List.length_singleton]; omega))
      · rintro σ H2 ⟨⟨o4, o5, rfl⟩, k2, mi, h2, l2, g2⟩
        have e : goB mi (ks.drop (min (ks.map kV).length (ts.map kV).length)) (ts.drop (min (ks.map kV).length (ts.map kV).length)) = some mi := by
          rw [List.length_map, List.length_map, ← hl, Nat.min_self, List.drop_length]
          rfl
        rw [e] at g2
        exact ⟨_, rfl, ky mi W H2 (by unfold bnd; rw [if_pos hl]; exact g2) k2 hW h2⟩
end
end Fm

namespace Fm
open PySem PySem.Spec PyProof.Rows L2
/-! ### the law's own names of a pattern -/
theorem idx_pre {s : Str} {ms ns : List Str} (h : s ∈ ms) (p : ms <+: ns) : ns.idxOf s = ms.idxOf s := by
  obtain ⟨t, rfl⟩ := p
  rw [List.idxOf_append, if_pos h]
theorem ren_pre {s : Str} {ms ns : List Str} (h : s ∈ ms) (p : ms <+: ns) : ren ms (.inr s) = ren ns (.inr s) := by
  rw [ren_inr, ren_inr, if_pos h, if_pos (p.subset h), idx_pre h p]
theorem addN_pre (ns : List Str) (k : Key) : ns <+: addN ns k := by
  cases k with
  | inl _ => exact List.prefix_refl _
  | inr t =>
    rw [addN_inr]
    split
    · exact List.prefix_refl _
    · exact List.prefix_append _ _
theorem foldN_pre : ∀ (ks : List Key) (ns : List Str), ns <+: ks.foldl addN ns
  | [], _ => List.prefix_refl _
  | k :: ks, ns => (addN_pre ns k).trans (foldN_pre ks _)
theorem foldR_pre : ∀ (ps : List (Str × List Key)) (ns : List Str), ns <+: ps.foldl addR ns
  | [], _ => List.prefix_refl _
  | r :: ps, ns => (foldN_pre r.2 ns).trans (foldR_pre ps _)
theorem names_pre {ps : List (Str × List Key)} {i : Nat} {r : Str × List Key} (h : ps[i]? = some r) (j : Nat) : (r.2.take j).foldl addN ((ps.take i).foldl addR []) <+: namesP ps := by
  have e : ps = ps.take (i + 1) ++ ps.drop (i + 1) := (List.take_append_drop ..).symm
  unfold namesP
  rw [e, List.foldl_append]
  refine List.IsPrefix.trans ?_ (foldR_pre _ _)
  rw [← e, take_snoc h, List.foldl_append]
  show _ <+: addR _ r
  unfold addR
  have e2 : r.2 = r.2.take j ++ r.2.drop j := (List.take_append_drop ..).symm
  conv => rhs; rw [e2]
  rw [List.foldl_append]
  exact foldN_pre _ _
/-- rows as the law makes them: tuples of a name and a list -/
inductive RawAll (ms : List Addr) (H : Hp) : List V → List (Str × List Key) → Prop
  | nil : RawAll ms H [] []
  | cons {a b : Addr} {r : Str × List Key} {xs : List V} {ps : List (Str × List Key)} : H a = some (.tup [.str r.1, .ref b]) → H b = some (.lst (r.2.map kV)) → b ∉ ms → RawAll ms H xs ps → RawAll ms H (.ref a :: xs) (r :: ps)
theorem RawAll.kp {ms : List Addr} {H H' : Hp} (k : Kp ms H H') : ∀ {xs : List V} {ps : List (Str × List Key)}, RawAll ms H xs ps → RawAll ms H' xs ps
  | _, _, .nil => .nil
  | _, _, .cons a b c d => .cons (k.tp _ _ a) (k.at_ _ _ b c) c (d.kp k)
theorem RawAll.mono {ms ms' : List Addr} {H : Hp} (h : ∀ x ∈ ms', x ∈ ms) : ∀ {xs : List V} {ps : List (Str × List Key)}, RawAll ms H xs ps → RawAll ms' H xs ps
  | _, _, .nil => .nil
  | _, _, .cons a b c d => .cons a b (fun z => c (h _ z)) (d.mono h)
theorem RawAll.len {ms : List Addr} {H : Hp} : ∀ {xs : List V} {ps : List (Str × List Key)}, RawAll ms H xs ps → xs.length = ps.length
  | _, _, .nil => rfl
  | _, _, .cons _ _ _ d => congrArg (· + 1) d.len
theorem RawAll.get {ms : List Addr} {H : Hp} : ∀ {xs : List V} {ps : List (Str × List Key)}, RawAll ms H xs ps → ∀ {i : Nat} {u : V}, xs[i]? = some u → ∃ a b r, u = .ref a ∧ ps[i]? = some r ∧ H a = some (.tup [.str r.1, .ref b]) ∧ H b = some (.lst (r.2.map kV)) ∧ b ∉ ms
  | _, _, .cons a b c d, 0, u, h => by cases h; exact ⟨_, _, _, rfl, rfl, a, b, c⟩
  | _, _, .cons a b c d, i + 1, u, h => d.get (i := i) h
theorem RawAll.snoc {ms : List Addr} {H : Hp} {a b : Addr} {r : Str × List Key} (h1 : H a = some (.tup [.str r.1, .ref b])) (h2 : H b = some (.lst (r.2.map kV))) (h3 : b ∉ ms) : ∀ {xs : List V} {ps : List (Str × List Key)}, RawAll ms H xs ps → RawAll ms H (xs ++ [.ref a]) (ps ++ [r])
  | _, _, .nil => .cons h1 h2 h3 .nil
  | _, _, .cons a b c d => .cons a b c (d.snoc h1 h2 h3)
def dPat (T : Pat) : PyData := .tuple [.tuple (T.rows.map dPR), dSyms T.grp, .tuple (T.pws.map dPow)]
/-- what stands of raw rows, group and powers -/
structure RawAt (ms : List Addr) (H : Hp) (R G W : Addr) (ps : List (Str × List Key)) (g : List Key) (pw : List (Str × Int)) : Prop where
  rows : ∃ xs, H R = some (.lst xs) ∧ RawAll ms H xs ps
  nR : R ∉ ms
  grp : H G = some (.lst (g.map kV))
  nG : G ∉ ms
  pws : H W = some (.dK (pwKv pw))
  nW : W ∉ ms
  ok : PsOk ps
  okg : g.length ≤ 3 ∧ (∀ k ∈ g, SymOk k) ∧ ∀ s, Sum.inr s ∈ g → s ∈ namesP ps
  okw : PwOk (namesP ps) pw
theorem RawAt.kp {ms : List Addr} {H H' : Hp} {R G W : Addr} {ps : List (Str × List Key)} {g : List Key} {pw : List (Str × Int)} (h : RawAt ms H R G W ps g pw) (k : Kp ms H H') : RawAt ms H' R G W ps g pw := by
  obtain ⟨⟨xs, h1, h2⟩, a, b, c, d, e, f, i, j⟩ := h
  exact ⟨⟨xs, k.at_ _ _ h1 a, h2.kp k⟩, a, k.at_ _ _ b c, c, k.at_ _ _ d e, e, f, i, j⟩
theorem RawAt.mono {ms ms' : List Addr} {H : Hp} {R G W : Addr} {ps : List (Str × List Key)} {g : List Key} {pw : List (Str × Int)} (h : RawAt ms H R G W ps g pw) (m : ∀ x ∈ ms', x ∈ ms) : RawAt ms' H R G W ps g pw := by
  obtain ⟨⟨xs, h1, h2⟩, a, b, c, d, e, f, i, j⟩ := h
  exact ⟨⟨xs, h1, h2.mono m⟩, fun z => a (m _ z), b, fun z => c (m _ z), d, fun z => e (m _ z), f, i, j⟩
def spDue : Sp := fun vs H Q _ => ∃ (R G W : Addr) (ps : List (Str × List Key)) (g : List Key) (pw : List (Str × Int)), vs = [.ref R, .ref G, .ref W] ∧ RawAt [] H R G W ps g pw ∧ ∀ v H', Kp [] H H' → Im H' 4 v (dPat (canP ps g pw)) → Q v H'
def abx : Str := "abcdefghijklmnopqrstuvwx"
theorem abx_at : ∀ n : Nat, n < 24 → abx.cps.toList[n]? = some (97 + n) := by decide +kernel
theorem abx_size : abx.cps.toList.length = 24 := by decide +kernel
theorem abx_len : abx.length = 24 := by decide +kernel
theorem abx_ix {r : Int} (h0 : 0 ≤ r) (h1 : r < 24) : atI abx.cps.toList r = some (97 + r.toNat) := by
  unfold atI ixN
  rw [abx_size, if_pos h0, if_pos (by omega)]
  exact abx_at r.toNat (by omega)
section
variable {P : Program} {w : World} {K : PySem.W.Frag} {mg : Str → Option Value} {base : Heap}
theorem ok_due (B : BiP mg) (D : Dfn K mg "_law_due" s__law_due ["_law_rows", "_law_group", "_law_powers"]) :
    Has P w K mg base CX0 "_law_due" ["_law_rows", "_law_group", "_law_powers"] 2 spDue := by
  refine D.has sc__law_due (fun vs H Q E h => ?_) (fun f cdv A outer s H vs Q E hr h => ?_)
  · obtain ⟨R, G, W, ps, g, pw, rfl, _⟩ := h; rfl
  · obtain ⟨R, G, W, ps, g, pw, rfl, RA, k⟩ := h
    have hu := hu_of hr
    refine ⟨_, (pss_cons (ps_set (i := 3) sc__law_due.nd rfl (by first | exact Or.inl rfl | exact Or.inr rfl) pe_dnewK)
  (pss_cons (ps_set (i := 4) sc__law_due.nd rfl (by first | exact Or.inl rfl | exact Or.inr rfl) (pe_lst pa_nil))
  (pss_cons (ps_for PassesOwn.never rfl (pi_list (pv 0)) (pg_tup rfl (pgs_cons (pg_name (i := 5) sc__law_due.nd rfl (by first | exact Or.inl rfl | exact Or.inr rfl)) (pgs_cons (pg_name (i := 6) sc__law_due.nd rfl (by first | exact Or.inl rfl | exact Or.inr rfl)) pgs_nil)))
  (pss_cons (ps_set (i := 7) sc__law_due.nd rfl (by first | exact Or.inl rfl | exact Or.inr rfl) (pe_lst pa_nil))
  (pss_cons (ps_for PassesOwn.never rfl (pi_list (pv 6)) (pg_name (i := 8) sc__law_due.nd rfl (by first | exact Or.inl rfl | exact Or.inr rfl))
  (pss_one (ps_if (pt_val (pe_callB call_isi (by rfl) B.isinstance (by decide +kernel) (pa_cons (pv 8) (pa_cons (pe_bltn (v := .ty "str") (by rfl) B.str (by decide +kernel) rfl) pa_nil))))
  (pss_cons (ps_if (pt_cmp (pc_dnotin hu (pv 8) (pv 3)) rfl)
  (pss_one (ps_dput hu (pv 3) (pv 8) (pe_ix ix_str pe_str (pe_callB call_lenD (by rfl) B.len PySem.boot_len (pa_cons (pv 3) pa_nil)) (fun _ _ => rfl)) rfl))
  pss_nil)
  (pss_one (ps_expr (pe_bm PySem.F.plainAttrs_list PySem.F.slot_list_append PySem.F.type_list_append mt_append (pv 7) (pa_cons (pe_dget hu (pv 3) (pv 8) (fun _ _ => rfl)) pa_nil)))))
  (pss_one (ps_expr (pe_bm PySem.F.plainAttrs_list PySem.F.slot_list_append PySem.F.type_list_append mt_append (pv 7) (pa_cons (pv 8) pa_nil)))))))
  (pss_one (ps_expr (pe_bm PySem.F.plainAttrs_list PySem.F.slot_list_append PySem.F.type_list_append mt_append (pv 4) (pa_cons (pe_tup (pa_cons (pv 5) (pa_cons (pe_callTy call_tuple_of (by rfl) B.tuple (by decide +kernel) (pa_cons (pv 7) pa_nil)) pa_nil))) pa_nil)))))))
  (pss_cons (ps_setLc (i := 7) (own := [("_law_symbol", 8)]) (g := gName 8) (by rfl) sc__law_due.nd rfl rfl (sw_true rfl rfl rfl (by decide +kernel)) (pi_list (pv 1)) (blkOk_by (own := [("_law_symbol", 8)]) (N := N__law_due) (sc := defScope s__law_due) (by decide +kernel)) (fun _ _ _ _ _ => (pg_name (i := 8) sc__law_due.nd rfl (by first | exact Or.inl rfl | exact Or.inr rfl))) (fun _ _ _ _ _ => pts_nil) (fun _ _ _ _ _ => (pe_ifExp (pt_val (pe_callB (r := rIsi K) call_isi (by rfl) B.isinstance (by decide +kernel) (pa_cons (pv 8) (pa_cons (pe_bltn (v := .ty "str") (by rfl) B.str (by decide +kernel) rfl) pa_nil)))) (pe_dget hu (pv 3) (pv 8) (fun _ _ => rfl)) (pv 8))))
  (pss_one (ps_ret (pe_tup (pa_cons (pe_callTy call_tuple_of (by rfl) B.tuple (by decide +kernel) (pa_cons (pv 4) pa_nil)) (pa_cons (pe_callTy call_tuple_of (by rfl) B.tuple (by decide +kernel) (pa_cons (pv 7) pa_nil)) (pa_cons (pe_callTy call_tuple_of (by rfl) B.tuple (by decide +kernel) (pa_cons (pe_callB (cr_sortedSI hr.units) (by rfl) B.sorted (by decide +kernel) (pa_cons (pe_lock (pe_lc (own := [("_law_name_here", 9)]) (g := gName 9) (by rfl) sc__law_due.nd (pi_keys (pv 2)) (blkOk_by (own := [("_law_name_here", 9)]) (N := N__law_due) (sc := defScope s__law_due) (by decide +kernel)) (fun _ _ _ _ _ => (pg_name (i := 9) sc__law_due.nd rfl (by first | exact Or.inl rfl | exact Or.inr rfl))) (fun _ _ _ _ _ => pts_nil) (fun _ _ _ _ _ => (pe_tup (pa_cons (pe_dget hu (pv 3) (pv 9) (fun _ _ => rfl)) (pa_cons (pe_dget hu (pv 2) (pv 9) (fun _ _ => rfl)) pa_nil)))))) pa_nil)) pa_nil)) pa_nil)))))))))), ?_⟩
    obtain ⟨⟨xs, hR, RX⟩, _, hG, _, hW, _, okp, okg, okw⟩ := RA
    have ok1 := okp.1
    have n24 := namesP_len okp
    have w24 := okw.len
    have el := RX.len
    intro D hD
    have k0 : Kp [] H (upd H D (.dK [])) := Kp.new hD
    refine ⟨by show 0 ≤ sizeLine; decide, fun M hM => ?_⟩
    have k1 := k0.snoc (o := .lst []) hM
    have MD : M ≠ D := fun z => by rw [z, upd_same] at hM; cases hM
    have hMH : H M = none := by rw [upd_ne MD] at hM; exact hM
    refine ⟨_, rfl, R, rfl, ⟨_, SqL.of (k1.at_ _ _ hR (fun z => nomatch z))⟩, ?_⟩
    refine for_it (walk_list (xs := xs)) (fun i σ H' => (∃ o5 o6 o7 o8, σ = [some (.ref R), some (.ref G), some (.ref W), some (.ref D), some (.ref M), o5, o6, o7, o8, none]) ∧ Kp [] H H' ∧ H' D = some (.dK (nmKv ((ps.take i).foldl addR []))) ∧ ∃ zs, H' M = some (.lst zs) ∧ zs.length = i ∧ ImAll H' 2 zs (((ps.take i).map (renR (namesP ps))).map dPR)) ⟨⟨_, _, _, _, rfl⟩, k1, by rw [upd_ne (Ne.symm MD)]; exact upd_same, [], upd_same, rfl, .nil⟩ (fun i σ H' _ h => SqL.of (h.2.1.at_ _ _ hR (fun z => nomatch z))) ?_ ?_
    · rintro i u σ H2 H3 hi ⟨⟨o5, o6, o7, o8, rfl⟩, k2, h2, zs, hz, lz, iz⟩ ⟨rfl, hu1⟩
      obtain ⟨a, b, r, rfl, er, ha, hb, _⟩ := (RX.kp k2).get hu1
      have okr := okp.2 r (List.mem_of_getElem? er)
      have i6 : i < 6 := by omega
      refine ⟨a, _, rfl, SqT.of ha, rfl, _, _, rfl, _, _, rfl, rfl, ?_⟩
      refine ⟨by show 0 ≤ sizeLine; decide, fun T hT => ?_⟩
      have k3 := k2.snoc (o := .lst []) hT
      have h3 : upd H3 T (.lst []) D = some (.dK (nmKv ((ps.take i).foldl addR []))) := (Kp.new (ms := []) hT).at_ _ _ h2 (fun z => nomatch z)
      have hz3 : upd H3 T (.lst []) M = some (.lst zs) := (Kp.new (ms := []) hT).at_ _ _ hz (fun z => nomatch z)
      have hb3 : upd H3 T (.lst []) b = some (.lst (r.2.map kV)) := (Kp.new (ms := []) hT).at_ _ _ hb (fun z => nomatch z)
      have iz3 := ImAll.kp (ms := []) (Kp.new (o := .lst []) hT) iz
      refine ⟨_, rfl, b, rfl, ⟨_, SqL.of hb3⟩, ?_⟩
      have TD : T ≠ D := fun z => by rw [z, h2] at hT; cases hT
      have TM : T ≠ M := fun z => by rw [z, hz] at hT; cases hT
      have Tb : T ≠ b := fun z => by rw [z, hb] at hT; cases hT
      have hTH : H T = none := k2.same.free hT
      refine for_it (walk_list (xs := r.2.map kV)) (fun j σ H' => (∃ o8, σ = [some (.ref R), some (.ref G), some (.ref W), some (.ref D), some (.ref M), some (.str r.1), some (.ref b), some (.ref T), o8, none]) ∧ Kp [] H H' ∧ H' D = some (.dK (nmKv ((r.2.take j).foldl addN ((ps.take i).foldl addR [])))) ∧ H' M = some (.lst zs) ∧ ImAll H' 2 zs (((ps.take i).map (renR (namesP ps))).map dPR) ∧ H' b = some (.lst (r.2.map kV)) ∧ H' T = some (.lst (((r.2.take j).map (ren (namesP ps))).map kV))) ⟨⟨_, rfl⟩, k3, h3, hz3, iz3, hb3, upd_same⟩ (fun j σ H' _ h => SqL.of h.2.2.2.2.2.1) ?_ ?_
      · rintro j u σ H4 H5 hj ⟨⟨o8, rfl⟩, k4, h4, hz4, iz4, hb4, hT4⟩ ⟨rfl, hu2⟩
        rw [List.getElem?_map] at hu2
        cases ey : r.2[j]? with
        | none => rw [ey] at hu2; cases hu2
        | some y =>
          rw [ey] at hu2
          cases hu2
          have pre := names_pre er (j + 1)
          rw [take_snoc ey, List.foldl_append] at pre ⊢
          rw [List.map_append, List.map_append]
          have l5 : ((r.2.take j).foldl addN ((ps.take i).foldl addR [])).length < 24 := by
            have a1 := foldN_len (r.2.take j) ((ps.take i).foldl addR [])
            have a2 := foldR_len (ps.take i) [] fun x hx => (okp.2 x (List.mem_of_mem_take hx)).2.2.1
            have j4 := (List.getElem?_eq_some_iff.mp ey).1
            have := okr.2.2.1
            have := List.length_take_le i ps
            have := List.length_take_le j r.2
            have : (List.take i ps).length = min i ps.length := List.length_take
            have : (List.take j r.2).length = min j r.2.length := List.length_take
            simp only [List.length_nil] at *
            omega
          have lT : (((r.2.take j).map (ren (namesP ps))).map kV).length ≤ 1000 := by
            rw [List.length_map, List.length_map]
            have := List.length_take_le j r.2
            have := okr.2.2.1
            have : (List.take j r.2).length = min j r.2.length := List.length_take
            omega
          generalize hms : (r.2.take j).foldl addN ((ps.take i).foldl addR []) = ms at h4 l5 pre
          refine ⟨_, rfl, _, _, _, _, _, rfl, .ty _, kV_ty, kit_ty (kb_key y), _, rfl, ?_⟩
          cases y with
          | inl iy =>
            refine iteF ⟨_, rfl, .inl ⟨rfl, _, SqL.of hT4⟩, _, rfl, T, _, _, rfl, rfl, hT4, small1000 lT, ?_⟩
            have kT : Kp [T] H5 (upd H5 T (.lst (((r.2.take j).map (ren (namesP ps))).map kV ++ [.int iy]))) := Kp.updL hT4 (by simp)
            exact ⟨⟨_, rfl⟩, k4.late hTH, kT.at_ _ _ h4 (by simpa using Ne.symm TD), kT.at_ _ _ hz4 (by simpa using Ne.symm TM), ImAll.kp kT iz4, kT.at_ _ _ hb4 (by simpa using Ne.symm Tb), upd_same⟩
          | inr sy =>
            refine iteT ⟨_, rfl, _, rfl, D, _, rfl, .inl ⟨_, .inr sy, .inl h4, rfl, rfl⟩, _, rfl, ?_⟩
            rw [valV_nm]
            by_cases hm : sy ∈ ms
            · rw [if_pos hm]
              have pre2 : ms <+: namesP ps := by
                have e : addN ms (.inr sy) = ms := by rw [addN_inr, if_pos hm]
                rw [← e]; exact pre
              have hv : valV (nmKv ms) (.inr sy) = some (kV (ren (namesP ps) (.inr sy))) := by
                rw [valV_nm, if_pos hm, ← ren_pre hm pre2, ren_inr, if_pos hm]; rfl
              refine iteF ⟨_, rfl, .inl ⟨rfl, _, SqL.of hT4⟩, _, rfl, _, rfl, D, _, rfl, .inl ⟨_, .inr sy, .inl h4, rfl, hv.symm⟩, T, _, _, rfl, rfl, hT4, small1000 lT, ?_⟩
              have kT : Kp [T] H5 (upd H5 T (.lst (((r.2.take j).map (ren (namesP ps))).map kV ++ [kV (ren (namesP ps) (.inr sy))]))) := Kp.updL hT4 (by simp)
              refine ⟨⟨_, rfl⟩, k4.late hTH, ?_, kT.at_ _ _ hz4 (by simpa using Ne.symm TM), ImAll.kp kT iz4, kT.at_ _ _ hb4 (by simpa using Ne.symm Tb), upd_same⟩
              show _ = some (HO.dK (nmKv (addN ms (.inr sy))))
              rw [addN_inr, if_pos hm]
              exact kT.at_ _ _ h4 (by simpa using Ne.symm TD)
            · rw [if_neg hm]
              have e : addN ms (.inr sy) = ms ++ [sy] := by rw [addN_inr, if_neg hm]
              have pre2 : ms ++ [sy] <+: namesP ps := by rw [← e]; exact pre
              have hm2 : sy ∈ ms ++ [sy] := List.mem_append_right _ List.mem_cons_self
              have hv : valV (nmKv (ms ++ [sy])) (.inr sy) = some (kV (ren (namesP ps) (.inr sy))) := by
                rw [valV_nm, if_pos hm2, ← ren_pre hm2 pre2, ren_inr, if_pos hm2]; rfl
              refine iteT ?_
              refine ⟨_, rfl, D, _, rfl, h4, abx, _, _, rfl, rfl, by rw [abx_len]; decide, abx_ix (by omega) (by rw [nmKv_len]; omega), _, rfl, _, rfl, D, _, rfl, .inl ⟨_, .inr sy, h4, rfl, by rw [nmKv_len]; exact small1000 (by omega), rfl⟩, ?_⟩
              rw [putK_new _ (by rw [valV_nm, if_neg hm])]
              have e2 : nmKv ms ++ [((.inr sy : Key), V.str ⟨#[97 + (((nmKv ms).length : Nat) : Int).toNat]⟩)] = nmKv (ms ++ [sy]) := by rw [nmKv_snoc, nmKv_len, Int.toNat_natCast]; rfl
              rw [e2]
              generalize h6 : upd H5 D (.dK (nmKv (ms ++ [sy]))) = H6
              have kD : Kp [D] H5 H6 := h6 ▸ Kp.set h4 (fun _ z => by cases z) (by simp)
              have hD6 : H6 D = some (.dK (nmKv (ms ++ [sy]))) := by rw [← h6]; exact upd_same
              have hT6 := kD.at_ _ _ hT4 (by simpa using TD)
              refine ⟨_, rfl, .inl ⟨rfl, _, SqL.of hT6⟩, _, rfl, _, rfl, D, _, rfl, .inl ⟨_, .inr sy, .inl hD6, rfl, hv.symm⟩, T, _, _, rfl, rfl, hT6, small1000 lT, ?_⟩
              have kT : Kp [T] H6 (upd H6 T (.lst (((r.2.take j).map (ren (namesP ps))).map kV ++ [kV (ren (namesP ps) (.inr sy))]))) := Kp.updL hT6 (by simp)
              have k46 : Kp [] H H6 := h6 ▸ k4.late hD
              refine ⟨⟨_, rfl⟩, k46.late hTH, ?_, kT.at_ _ _ (kD.at_ _ _ hz4 (by simpa using MD)) (by simpa using Ne.symm TM), ImAll.kp kT (ImAll.kp kD iz4), kT.at_ _ _ (kD.at_ _ _ hb4 ?_) (by simpa using Ne.symm Tb), upd_same⟩
              · show _ = some (HO.dK (nmKv (addN ms (.inr sy))))
                rw [e]
                exact kT.at_ _ _ hD6 (by simpa using Ne.symm TD)
              · intro z
                have z : b = D := by simpa using z
                rw [z, h4] at hb4; cases hb4
      · rintro σ H4 ⟨⟨o8, rfl⟩, k4, h4, hz4, iz4, hb4, hT4⟩
        rw [List.length_map, List.take_length] at h4 hT4
        refine ⟨_, rfl, .inl ⟨rfl, _, SqL.of hz4⟩, _, rfl, _, rfl, T, _, rfl, .inl ⟨SqL.of hT4, fun l hl => ⟨by show 2 ≤ sizeLine; decide, fun t ht => ?_⟩⟩⟩
        have k5 := (Kp.new (ms := []) (o := .tup ((r.2.map (ren (namesP ps))).map kV)) hl).snoc (o := .tup [.str r.1, .ref l]) ht
        have hz5 := k5.at_ _ _ hz4 (fun z => nomatch z)
        refine ⟨M, _, _, rfl, rfl, hz5, by rw [lz]; exact small1000 (by omega), ?_⟩
        have kM : Kp [M] (upd (upd H4 l (.tup ((r.2.map (ren (namesP ps))).map kV))) t (.tup [.str r.1, .ref l])) (upd (upd (upd H4 l (.tup ((r.2.map (ren (namesP ps))).map kV))) t (.tup [.str r.1, .ref l])) M (.lst (zs ++ [.ref t]))) := Kp.updL hz5 (by simp)
        have hl7 := kM.tp _ _ ((Kp.new (ms := []) ht).tp _ _ (upd_same (H := H4) (a := l)))
        have ht7 := kM.tp _ _ (upd_same (H := upd H4 l (.tup ((r.2.map (ren (namesP ps))).map kV))) (a := t))
        refine ⟨⟨_, _, _, _, rfl⟩, (k4.trans k5).late hMH, ?_, zs ++ [.ref t], upd_same, by simp [lz], ?_⟩
        · rw [take_snoc er, List.foldl_append]
          exact kM.at_ _ _ (k5.at_ _ _ h4 (fun z => nomatch z)) (by simpa using Ne.symm MD)
        · rw [take_snoc er, List.map_append, List.map_append]
          refine (ImAll.kp (k5.zero.trans kM) iz4).append (.cons ?_ .nil)
          refine .tup ht7 ⟨by show 2 ≤ 1000000; decide, ⟨_, ht7⟩⟩ (.cons (.str _ (by have := okr.1.2.1; omega)) (.cons (.tup hl7 ⟨by rw [List.length_map, List.length_map]; omega, ⟨_, hl7⟩⟩ (dt_syms fun y hy => ?_)) .nil))
          obtain ⟨y0, hy0, rfl⟩ := List.mem_map.mp hy
          exact ren_ok (okr.2.2.2 y0 hy0)
    · rintro σ H2 ⟨⟨o5, o6, o7, o8, rfl⟩, k2, h2, zs, hz, lz, iz⟩
      rw [el, List.take_length] at h2 iz
      have h2 : H2 D = some (.dK (nmKv (namesP ps))) := h2
      have hG2 := k2.at_ _ _ hG (fun z => nomatch z)
      have hW2 := k2.at_ _ _ hW (fun z => nomatch z)
      have l3 := okg.1
      refine ⟨_, rfl, G, rfl, ⟨_, SqL.of hG2⟩, fun L hL => ?_⟩
      refine lc_it (walk_list (xs := g.map kV)) (fun j H' => H' L = some (.lst (((g.take j).map (ren (namesP ps))).map kV)) ∧ Kp [] H2 H') ⟨upd_same, Kp.new hL⟩ (fun j H' _ h => SqL.of (h.2.at_ _ _ hG2 (fun z => nomatch z))) (fun j u H3 H4 hj h3 hy => ?_) (fun H3 h3 => ?_)
      · obtain ⟨h3, k3⟩ := h3
        obtain ⟨rfl, hu2⟩ := hy
        rw [List.getElem?_map] at hu2
        cases ey : g[j]? with
        | none => rw [ey] at hu2; cases hu2
        | some y =>
          rw [ey] at hu2
          cases hu2
          have lg : (((g.take j).map (ren (namesP ps))).map kV).length < sizeLine := by
            rw [List.length_map, List.length_map]
            have : (List.take j g).length = min j g.length := List.length_take
            exact small1000 (by omega)
          refine ⟨rfl, _, rfl, _, _, _, _, _, rfl, .ty _, kV_ty, kit_ty (kb_key y), _, rfl, ?_⟩
          cases y with
          | inl iy =>
            refine iteF ⟨_, rfl, _, h3, lg, ?_, k3.late hL⟩
            rw [upd_same, take_snoc ey, List.map_append, List.map_append]; rfl
          | inr sy =>
            have hm := okg.2.2 sy (List.mem_of_getElem? ey)
            have hv : valV (nmKv (namesP ps)) (.inr sy) = some (kV (ren (namesP ps) (.inr sy))) := by
              rw [valV_nm, if_pos hm, ren_inr, if_pos hm]; rfl
            refine iteT ⟨_, rfl, _, rfl, D, _, rfl, .inl ⟨_, .inr sy, .inl (k3.at_ _ _ h2 (fun z => nomatch z)), rfl, hv.symm⟩, _, h3, lg, ?_, k3.late hL⟩
            rw [upd_same, take_snoc ey, List.map_append, List.map_append]; rfl
      · obtain ⟨h3, k3⟩ := h3
        rw [List.length_map, List.take_length] at h3
        have hz3 := k3.at_ _ _ hz (fun z => nomatch z)
        have hD3 := k3.at_ _ _ h2 (fun z => nomatch z)
        have hW3 := k3.at_ _ _ hW2 (fun z => nomatch z)
        refine ⟨_, rfl, M, _, rfl, .inl ⟨SqL.of hz3, fun l1 hl1 => ?_⟩⟩
        have h3' := (Kp.new (ms := []) (o := .tup zs) hl1).at_ _ _ h3 (fun z => nomatch z)
        refine ⟨_, rfl, L, _, rfl, .inl ⟨SqL.of h3', fun l2 hl2 => ?_⟩⟩
        generalize h5 : upd (upd H3 l1 (.tup zs)) l2 (.tup ((g.map (ren (namesP ps))).map kV)) = H5
        have k35 : Kp [] H3 H5 := h5 ▸ (Kp.new hl1).snoc hl2
        have e1 : H5 l1 = some (.tup zs) := by
          have := (Kp.new (ms := []) (o := .tup ((g.map (ren (namesP ps))).map kV)) hl2).tp _ _ (upd_same (H := H3) (a := l1) (o := .tup zs))
          rw [h5] at this; exact this
        have e2 : H5 l2 = some (.tup ((g.map (ren (namesP ps))).map kV)) := by rw [← h5]; exact upd_same
        have hW5 := k35.at_ _ _ hW3 (fun z => nomatch z)
        have hD5 := k35.at_ _ _ hD3 (fun z => nomatch z)
        refine ⟨W, _, hW5, trivial, fun od => ?_⟩
        have sl : Sm H5 (upd H5 W (.frz od (.dK (pwKv pw)))) := Sm.lock hW5 (fun _ _ z => by cases z) (fun _ z => by cases z)
        have rD := sl.rd (.inl hD5)
        refine ⟨_, rfl, W, od, rfl, .inl ⟨pwKv pw, upd_same, fun L2 hL2 => ?_⟩⟩
        refine lc_it (walk_keys (kvs := pwKv pw)) (fun j H' => ∃ zs, H' L2 = some (.lst zs) ∧ PowAll H' zs ((pw.take j).map (nmPw (namesP ps))) ∧ zs.length = j ∧ Kp [] (upd H5 W (.frz od (.dK (pwKv pw)))) H') ⟨[], upd_same, .nil, rfl, Kp.new hL2⟩ (fun j H' _ h => let ⟨_, _, _, _, kq⟩ := h; kq.at_ _ _ upd_same (fun z => nomatch z)) (fun j xk H9 H10 hj h9 hy => ?_) (fun H9 h9 => ?_)
        · obtain ⟨zs, hz, pz, lz, k9⟩ := h9
          obtain ⟨rfl, kk, vv, hk, rfl⟩ := hy
          obtain ⟨e, he, rfl, rfl, hv⟩ := pwKv_at okw.1 hk
          have pin := (okw.2 e (List.mem_of_getElem? he)).1
          have rD9 := k9.rd (fun z => nomatch z) rD
          have rW9 : Rd H10 W (.dK (pwKv pw)) := k9.rd (fun z => nomatch z) (.inr ⟨od, upd_same⟩)
          refine ⟨rfl, _, rfl, _, rfl, D, _, rfl, .inl ⟨_, .inr e.1, rD9, rfl, by rw [valV_nm, if_pos pin]⟩, _, rfl, _, rfl, W, _, rfl, .inl ⟨_, .inr e.1, rW9, rfl, hv.symm⟩, by show 2 ≤ sizeLine; decide, fun t ht => ?_⟩
          have hzt : upd H10 t (.tup [.str (ltr ((namesP ps).idxOf e.1)), .int e.2]) L2 = some (.lst zs) := (Kp.new (ms := []) ht).at_ _ _ hz (fun z => nomatch z)
          refine ⟨zs, hzt, ?_, zs ++ [.ref t], upd_same, ?_, by simp [lz], (k9.snoc ht).late hL2⟩
          · rw [lz]
            rw [show (pwKv pw).length = pw.length from List.length_map ..] at hj
            exact small1000 (by omega)
          · rw [take_snoc he, List.map_append]
            have kL : Kp [L2] (upd H10 t (.tup [.str (ltr ((namesP ps).idxOf e.1)), .int e.2])) (upd (upd H10 t (.tup [.str (ltr ((namesP ps).idxOf e.1)), .int e.2])) L2 (.lst (zs ++ [.ref t]))) := Kp.updL hzt (by simp)
            have ht7 := kL.tp _ _ (upd_same (H := H10) (a := t))
            exact (pz.kp ((Kp.new (ms := [L2]) ht).trans kL)).snoc (p := nmPw (namesP ps) e) ⟨t, rfl, ht7⟩
        · obtain ⟨ws, hw, pz, lw, k9⟩ := h9
          rw [show (pwKv pw).length = pw.length from List.length_map .., List.take_length] at pz
          refine ⟨k9.at_ _ _ upd_same (fun z => nomatch z), ?_⟩
          have L2W : L2 ≠ W := fun z => by rw [z, upd_same] at hL2; cases hL2
          have k59 : Kp [] H5 (upd H9 W (.dK (pwKv pw))) := Kp.unlock hW5 k9
          have hW9 := k9.at_ _ _ upd_same (fun z => nomatch z)
          have pz' : PowAll (upd H9 W (.dK (pwKv pw))) ws (pw.map (nmPw (namesP ps))) := pz.kp (ms := [W]) (Kp.set hW9 (fun _ z => by cases z) (by simp))
          refine ⟨L2, ws, _, rfl, SqL.of (by rw [upd_ne L2W]; exact hw), pz', fun dd ys hdd hys => ?_⟩
          refine ⟨dd, ys, rfl, .inl ⟨SqL.of upd_same, fun tt htt => ⟨by show 3 ≤ sizeLine; decide, fun q hq => ?_⟩⟩⟩
          generalize h10 : upd (upd H9 W (.dK (pwKv pw))) dd (.lst ys) = H10 at htt hq ⊢
          have kd : Kp [] (upd H9 W (.dK (pwKv pw))) H10 := h10 ▸ Kp.new hdd
          have kf : Kp [] H10 (upd (upd H10 tt (.tup ys)) q (.tup [.ref l1, .ref l2, .ref tt])) := (Kp.new htt).snoc hq
          have kdf := kd.trans kf
          have k5f := k59.trans kdf
          have ly := hys.len
          rw [srt_len, List.length_map] at ly
          have f1 := k5f.tp _ _ e1
          have f2 := k5f.tp _ _ e2
          have f3 := (Kp.new (ms := []) (o := .tup [.ref l1, .ref l2, .ref tt]) hq).tp _ _ (upd_same (H := H10) (a := tt) (o := .tup ys))
          refine k _ _ ((k2.trans (k3.trans k35)).trans k5f) ?_
          have iz5 := ImAll.kp ((k3.trans k35).trans k5f) iz
          refine .tup upd_same ⟨by show 3 ≤ 1000000; decide, ⟨_, upd_same⟩⟩ (.cons (.tup f1 ⟨by omega, ⟨_, f1⟩⟩ iz5) (.cons (.tup f2 ⟨by rw [List.length_map, List.length_map]; omega, ⟨_, f2⟩⟩ (dt_syms fun y hy => ?_)) (.cons (.tup f3 ⟨by omega, ⟨_, f3⟩⟩ ((hys.kp kdf).im fun e he => ?_)) .nil)))
          · obtain ⟨y0, hy0, rfl⟩ := List.mem_map.mp hy
            exact ren_ok (okg.2.1 y0 hy0)
          · obtain ⟨e0, _, rfl⟩ := List.mem_map.mp (srt_mem.mp he)
            show (ltr _).length ≤ 1000000
            unfold ltr; show 1 ≤ 1000000; decide
end
end Fm

namespace Fm
open PySem PySem.Spec PyProof.Rows L2
/-! ### bag and pick -/
def spBag (K : PySem.W.Frag) : Sp := fun vs H Q _ => ∃ (a : Addr) (ns : List Int), vs = [.ref a] ∧ SqL K H a (ns.map V.int) ∧
  ∀ b c H', Kp [] H H' → H b = none → H c = none → Bag H' b c → Q (.ref b) H'
def spPick : Sp := fun vs H Q _ => ∃ (b c : Addr) (many : Int), vs = [.ref b, .int many] ∧ Bag H b c ∧ 0 < many ∧ many < 1073741824 ∧
  ∀ (r : Int) (H' : Hp), 0 ≤ r → r < many → Bag H' b c → Kp [b] H H' → Q (.int r) H'
section
variable {P : Program} {w : World} {K : PySem.W.Frag} {mg : Str → Option Value} {base : Heap}
theorem ok_bag (B : Bi mg) (D : Dfn K mg "_law_bag" s__law_bag ["_law_script"]) : Has P w K mg base CX0 "_law_bag" ["_law_script"] 1 (spBag K) := by
  refine D.has sc__law_bag (fun vs H Q E h => ?_) (fun f cdv A outer s H vs Q E hr h => ?_)
  · obtain ⟨a, ns, rfl, _⟩ := h; rfl
  · obtain ⟨a, ns, rfl, hS, k⟩ := h
    refine ⟨_, pss_one (ps_ret (pe_lst (pa_cons (pe_callTy call_list_of (by rfl) B.list (by decide +kernel) (pa_cons (pe_slice sl_list (pv 0) po_none (po_some pe_int)) pa_nil)) (pa_cons pe_int (pa_cons pe_int (pa_cons pe_int (pa_cons pe_int (pa_cons pe_int pa_nil)))))))), ?_⟩
    refine ⟨_, rfl, 63, rfl, a, _, rfl, hS, fun p np => ?_⟩
    refine ⟨p, _, rfl, .inl (SqL.of upd_same), fun c nc => ?_⟩
    refine ⟨by show 6 ≤ sizeLine; decide, fun b nb => ?_⟩
    obtain ⟨cs, e, hl⟩ : ∃ cs : List Int, cutV (ns.map V.int) none (some 63) = cs.map V.int ∧ cs.length ≤ 63 := by
      refine ⟨ns.take (min 63 ns.length), ?_, ?_⟩
      · have e1 : HT.sIx (ns.map V.int).length (ns.map V.int).length (some 63) = min 63 (ns.map V.int).length := HT.sIx_nat _ _ 63
        unfold cutV
        rw [e1, HT.sIx_none, List.drop_zero, Nat.sub_zero, List.length_map, List.map_take]
      · rw [List.length_take]; omega
    have n1 : H c = none := by
      have := nc
      by_cases z : c = p
      · rw [z]; exact np
      · rw [upd_ne z] at nc; exact nc
    have cb : c ≠ b := fun z => by rw [← z, upd_same] at nb; cases nb
    refine k b c _ (((Kp.new np).snoc nc).snoc nb) ?_ n1 ⟨⟨0, 0, 0, 0, 0, upd_same, by decide, by decide⟩, ⟨cs, ?_, hl⟩⟩
    · by_cases z : b = c
      · rw [z]; exact n1
      · rw [upd_ne z] at nb
        by_cases y : b = p
        · rw [y]; exact np
        · rw [upd_ne y] at nb; exact nb
    · rw [upd_ne cb, upd_same, e]
theorem emod_lt' {a n : Int} (h : 0 < n) : a % n < n := Int.emod_lt_of_pos a h
theorem ok_pick (B : Bi mg) (D : Dfn K mg "_law_pick" s__law_pick ["_law_bag_here", "_law_many"]) : Has P w K mg base CX0 "_law_pick" ["_law_bag_here", "_law_many"] 1 spPick := by
  refine D.has sc__law_pick (fun vs H Q E h => ?_) (fun f cdv A outer s H vs Q E hr h => ?_)
  · obtain ⟨b, c, m, rfl, _⟩ := h; rfl
  · obtain ⟨b, c, many, rfl, BG, m0, m1, k⟩ := h
    obtain ⟨⟨i, z, m, n, q, hb, hi, hz⟩, ⟨cs, hc, hl⟩⟩ := id BG
    have ncb := BG.ne
    have hu := hu_of hr
    refine ⟨_, (pss_cons (ps_asg (pe_op op_add (pe_ix ix_list (pv 0) pe_int (fun _ _ => rfl)) pe_int) (pg_sub (pv 0) pe_int set_list))
  (C8.pss_cut (ps_if (PW.pt (pw_and (pt_cmpR op_eq (pe_ix ix_list (pv 0) pe_int (fun _ _ => rfl)) pe_int (nomark _)) (pw_and (pt_cmpR op_eq (pe_ix ix_list (pv 0) pe_int (fun _ _ => rfl)) pe_int (nomark _)) (pw_and1 (pt_cmpR op_lt (pe_ix ix_list (pv 0) pe_int (fun _ _ => rfl)) (pe_callB call_len (by rfl) B.len PySem.boot_len (pa_cons (pe_ix ix_list (pv 0) pe_int (fun _ _ => rfl)) pa_nil)) (nomark _))))))
  (pss_cons (ps_set (i := 2) sc__law_pick.nd rfl (by first | exact Or.inl rfl | exact Or.inr rfl) (pe_ix ix_list (pe_ix ix_list (pv 0) pe_int (fun _ _ => rfl)) (pe_ix ix_list (pv 0) pe_int (fun _ _ => rfl)) (fun _ _ => rfl)))
  (pss_cons (ps_asg (pe_op op_add (pe_ix ix_list (pv 0) pe_int (fun _ _ => rfl)) pe_int) (pg_sub (pv 0) pe_int set_list))
  (pss_one (ps_if (pt_cmpR op_ge (pv 2) (pe_op op_pow pe_int pe_int) (nomark _))
  (pss_one (ps_asg (pv 2) (pg_sub (pv 0) pe_int set_list)))
  (pss_cons (ps_asg (pe_op op_mod (pe_callTy call_int1 (by rfl) B.int (by decide +kernel) (pa_cons (pe_op op_add (pe_op op_add (pe_op op_mul (pe_ix ix_list (pv 0) pe_int (fun _ _ => rfl)) pe_int) (pv 2)) pe_int) pa_nil)) pe_int) (pg_sub (pv 0) pe_int set_list))
  (pss_one (ps_asg pe_int (pg_sub (pv 0) pe_int set_list))))))))
  pss_nil)
  (C8.pss_cut (ps_if (pt_cmpR op_gt (pe_ix ix_list (pv 0) pe_int (fun _ _ => rfl)) pe_int (nomark _))
  (pss_cons (ps_set (i := 3) sc__law_pick.nd rfl (by first | exact Or.inl rfl | exact Or.inr rfl) (pe_op op_mod (pe_callTy call_int1 (by rfl) B.int (by decide +kernel) (pa_cons (pe_ix ix_list (pv 0) pe_int (fun _ _ => rfl)) pa_nil)) (pv 1)))
  (pss_cons (ps_asg (pe_op op_fdiv (pe_ix ix_list (pv 0) pe_int (fun _ _ => rfl)) (pv 1)) (pg_sub (pv 0) pe_int set_list))
  (pss_one (ps_ret (pv 3)))))
  pss_nil)
  (pss_cons (ps_asg (pe_callB (call_max2 rfl) (by rfl) B.max (by decide +kernel) (pa_cons pe_int (pa_cons (pe_op op_sub (pe_ix ix_list (pv 0) pe_int (fun _ _ => rfl)) pe_int) pa_nil))) (pg_sub (pv 0) pe_int set_list))
  (pss_cons (ps_set (i := 4) sc__law_pick.nd rfl (by first | exact Or.inl rfl | exact Or.inr rfl) (pe_op op_mod (pe_callTy call_int1 (by rfl) B.int (by decide +kernel) (pa_cons (pe_op op_mul (pe_op op_add (pe_op op_add (pe_ix ix_list (pv 0) pe_int (fun _ _ => rfl)) (pe_op op_mul pe_int (pe_ix ix_list (pv 0) pe_int (fun _ _ => rfl)))) pe_int) pe_int) pa_nil)) pe_int))
  (pss_cons (ps_set (i := 4) sc__law_pick.nd rfl (by first | exact Or.inl rfl | exact Or.inr rfl) (pe_op op_mod (pe_callTy call_int1 (by rfl) B.int (by decide +kernel) (pa_cons (pe_op op_mul (pv 4) (pe_op op_add (pe_op op_fdiv (pv 4) pe_int) pe_int)) pa_nil)) pe_int))
  (pss_cons (ps_set (i := 4) sc__law_pick.nd rfl (by first | exact Or.inl rfl | exact Or.inr rfl) (pe_op op_mod (pe_callTy call_int1 (by rfl) B.int (by decide +kernel) (pa_cons (pe_op op_mul (pv 4) (pe_op op_add (pe_op op_fdiv (pv 4) pe_int) pe_int)) pa_nil)) pe_int))
  (pss_one (ps_ret (pe_op op_mod (pe_callTy call_int1 (by rfl) B.int (by decide +kernel) (pa_cons (pe_op op_fdiv (pv 4) pe_int) pa_nil)) (pv 1))))))))))), ?_⟩
    -- bag[4] = bag[4] + 1
    refine ⟨_, rfl, b, _, _, _, rfl, rfl, SqL.of hb, rfl, _, _, rfl, rfl, _, rfl, b, _, _, _, rfl, rfl, hb, rfl, ?_⟩
    -- the join behind the first if
    refine ⟨fun σ H' => ∃ (i z m n q : Int) (v : Option V), σ = [some (.ref b), some (.int many), v, none, none] ∧ 0 ≤ i ∧ 0 ≤ z ∧ H' = upd H b (.lst [.ref c, .int i, .int z, .int m, .int n, .int q]), ?_, ?_⟩
    · have h1 : ∀ L, (upd H b L) b = some L := fun L => upd_same
      have hcc : ∀ L, (upd H b L) c = some (.lst (cs.map V.int)) := fun L => by rw [upd_ne ncb]; exact hc
      have fin : ∀ (n : Int), ∃ (i' z' m' n' q' : Int) (v : Option V), ([some (.ref b), some (.int many), none, none, none] : L2.St) = [some (.ref b), some (.int many), v, none, none] ∧ 0 ≤ i' ∧ 0 ≤ z' ∧ upd H b (.lst [.ref c, .int i, .int z, .int m, .int n, .int q]) = upd H b (.lst [.ref c, .int i', .int z', .int m', .int n', .int q']) := fun n => ⟨i, z, m, n, q, none, rfl, hi, hz, rfl⟩
      refine ⟨_, rfl, b, _, _, _, rfl, rfl, SqL.of upd_same, rfl, rfl, _, rfl, ?_⟩
      refine ite2 (fun hz0 => ?_) (fun _ => fin _)
      refine ⟨_, rfl, b, _, _, _, rfl, rfl, SqL.of upd_same, rfl, rfl, _, rfl, ?_⟩
      refine ite2 (fun hq0 => ?_) (fun _ => fin _)
      refine ⟨_, rfl, b, _, _, _, rfl, rfl, SqL.of upd_same, rfl, _, rfl, b, _, _, _, rfl, rfl, SqL.of upd_same, rfl, _, _, rfl, .inl ⟨_, SqL.of (hcc _), rfl⟩, _, _, rfl, rfl, _, rfl, ?_⟩
      refine ite2 (fun hlt => ?_) (fun _ => fin _)
      rw [List.length_map] at hlt
      have hlt' : i < (cs.length : Int) := of_decide_eq_true hlt
      obtain ⟨y, hy⟩ : ∃ y, cs[i.toNat]? = some y := ⟨cs[i.toNat]'(by omega), List.getElem?_eq_getElem (by omega)⟩
      have hat : atI (cs.map V.int) i = some (V.int y) := by
        unfold atI ixN
        rw [List.length_map, if_pos hi, if_pos hlt']
        simp [hy]
      -- cell = bag[0][bag[1]]; bag[1] = bag[1] + 1
      refine ⟨_, rfl, b, _, _, _, rfl, rfl, SqL.of upd_same, rfl, _, rfl, b, _, _, _, rfl, rfl, SqL.of upd_same, rfl, c, _, _, _, rfl, rfl, SqL.of (hcc _), hat, ?_⟩
      refine ⟨_, rfl, b, _, _, _, rfl, rfl, SqL.of upd_same, rfl, _, _, rfl, rfl, _, rfl, b, _, _, _, rfl, rfl, upd_same, rfl, ?_⟩
      refine ⟨_, rfl, _, _, rfl, rfl, ⟨by decide, by decide, by decide⟩, _, _, rfl, rfl, _, rfl, ?_⟩
      refine ite2 (fun hbig => ?_) (fun _ => ?_)
      · refine ⟨_, rfl, _, rfl, b, _, _, _, rfl, rfl, upd_same, rfl, ?_⟩
        have hy0 : 0 ≤ y := by
          have := of_decide_eq_true hbig
          have e : (10 : Int) ^ (18 : Int).toNat = 1000000000000000000 := by decide
          rw [e] at this
          omega
        refine ⟨i + 1, y, m, n + 1, q, _, rfl, by omega, hy0, ?_⟩
        rw [upd_upd, upd_upd]
        rfl
      · refine ⟨_, rfl, b, _, _, _, rfl, rfl, SqL.of upd_same, rfl, _, _, rfl, rfl, .inr ⟨by decide, by decide⟩, _, rfl, _, _, rfl, rfl, _, _, rfl, rfl, .inl ⟨_, rfl, _, _, rfl, rfl, (by show (0 : Int) < 2147483647; decide), _, rfl, b, _, _, _, rfl, rfl, upd_same, rfl, ?_⟩⟩
        refine ⟨_, rfl, b, _, _, _, rfl, rfl, upd_same, rfl, ?_⟩
        refine ⟨i + 1, z, (m * 69621 + y + 12345) % 2147483647, n + 1, 6, _, rfl, by omega, hz, ?_⟩
        rw [upd_upd, upd_upd, upd_upd]
        rfl
    · clear hb hz hi hl
      rintro σ' H' ⟨i, z, m, n, q, v, rfl, hi, hz, rfl⟩
      have h1 : ∀ L, (upd H b L) b = some L := fun L => upd_same
      have kp : ∀ L, Kp [b] H (upd H b L) := fun L => by
        obtain ⟨_, _, _, _, _, hb, _⟩ := BG.bg
        exact Kp.updL hb (by simp)
      have bag : ∀ i z m n q : Int, 0 ≤ i → 0 ≤ z → Bag (upd H b (.lst [.ref c, .int i, .int z, .int m, .int n, .int q])) b c := fun i z m n q hi hz => by
        obtain ⟨cs, hc, hl⟩ := BG.cl
        exact ⟨⟨i, z, m, n, q, upd_same, hi, hz⟩, ⟨cs, by rw [upd_ne ncb]; exact hc, hl⟩⟩
      refine ⟨fun σ H' => σ = [some (.ref b), some (.int many), v, none, none] ∧ H' = upd H b (.lst [.ref c, .int i, .int z, .int m, .int n, .int q]), ?_, ?_⟩
      · refine ⟨_, rfl, b, _, _, _, rfl, rfl, SqL.of upd_same, rfl, _, _, rfl, rfl, _, rfl, ?_⟩
        refine ite2 (fun _ => ?_) (fun _ => ⟨rfl, rfl⟩)
        refine ⟨_, rfl, b, _, _, _, rfl, rfl, SqL.of upd_same, rfl, .inl ⟨_, rfl, _, rfl, _, _, rfl, rfl, m0, ?_⟩⟩
        refine ⟨_, rfl, b, _, _, _, rfl, rfl, SqL.of upd_same, rfl, _, rfl, _, _, rfl, rfl, ⟨m0, m1⟩, _, rfl, b, _, _, _, rfl, rfl, upd_same, rfl, ?_⟩
        refine ⟨_, rfl, ?_⟩
        rw [upd_upd]
        exact k _ _ (Int.emod_nonneg _ (by omega)) (Int.emod_lt_of_pos _ m0) (bag _ _ _ _ _ hi (Int.ediv_nonneg hz (by omega))) (kp _)
      · rintro σ' H' ⟨rfl, rfl⟩
        refine ⟨_, rfl, b, _, _, _, rfl, rfl, SqL.of upd_same, rfl, _, _, rfl, rfl, _, _, rfl, _, rfl, b, _, _, _, rfl, rfl, upd_same, rfl, ?_⟩
        rw [upd_upd]
        refine ⟨_, rfl, b, _, _, _, rfl, rfl, SqL.of upd_same, rfl, _, rfl, b, _, _, _, rfl, rfl, SqL.of upd_same, rfl, _, _, rfl, rfl, .inl ⟨by decide, by decide⟩, _, _, rfl, rfl, _, _, rfl, rfl, _, _, rfl, rfl, .inr ⟨by decide, by decide⟩, .inl ⟨_, rfl, _, _, rfl, rfl, (by show (0 : Int) < 2147483647; decide), ?_⟩⟩
        generalize hx : ((m + 7919 * n + 1) * 48271) % 2147483647 = x
        have x0 : 0 ≤ x := hx ▸ Int.emod_nonneg _ (by decide)
        have x1 : x < 2147483647 := hx ▸ Int.emod_lt_of_pos _ (by decide)
        refine ⟨_, rfl, _, rfl, _, _, rfl, rfl, ⟨by decide, by decide⟩, _, _, rfl, rfl, _, _, rfl, rfl, .inl ⟨by omega, by omega⟩, .inl ⟨_, rfl, _, _, rfl, rfl, (by show (0 : Int) < 2147483647; decide), ?_⟩⟩
        generalize hy : (x * (x / 1009 + 69621)) % 2147483647 = y
        have y0 : 0 ≤ y := hy ▸ Int.emod_nonneg _ (by decide)
        have y1 : y < 2147483647 := hy ▸ Int.emod_lt_of_pos _ (by decide)
        refine ⟨_, rfl, _, rfl, _, _, rfl, rfl, ⟨by decide, by decide⟩, _, _, rfl, rfl, _, _, rfl, rfl, .inl ⟨by omega, by omega⟩, .inl ⟨_, rfl, _, _, rfl, rfl, (by show (0 : Int) < 2147483399; decide), ?_⟩⟩
        refine ⟨_, rfl, _, _, rfl, rfl, ⟨by decide, by decide⟩, .inl ⟨_, rfl, _, rfl, _, _, rfl, rfl, m0, ?_⟩⟩
        exact k _ _ (Int.emod_nonneg _ (by omega)) (Int.emod_lt_of_pos _ m0) (bag _ _ _ _ _ hi hz) (kp _)
end
end Fm

namespace Fm
open PySem PySem.Spec PyProof.Rows L2
def spName : Sp := fun vs H Q _ => ∃ (b c t : Addr) (ws : List Str), vs = [.ref b, .ref t] ∧ Bag H b c ∧ H t = some (.lst (ws.map V.str)) ∧ t ≠ b ∧ t ≠ c ∧ ws.length ≤ 25 ∧
  ∀ (w : Str) (H' : Hp), IsNm w → w ∉ ws → Bag H' b c → H' t = some (.lst ((ws ++ [w]).map V.str)) → Kp [b, t] H H' → Q (.str w) H'
def menu8 : List Str := ["end", "put", "scan", "none", "of", "same", "table", "block"]
theorem menu8_nm : ∀ n : Nat, n < 8 → ∃ w, menu8[n]? = some w ∧ IsNm w := by
  intro n hn
  have : ∀ n : Fin 8, ∃ w, menu8[n.1]? = some w ∧ (1 ≤ w.length ∧ w.length ≤ 8 ∧ (w.cps.toList.all fun c => decide (97 ≤ c) && decide (c ≤ 122)) = true) := by
    intro n
    refine ⟨menu8[n.1]'(by have := n.2; show n.1 < 8; omega), by simp, ?_⟩
    revert n
    decide +kernel
  obtain ⟨w, h1, h2, h3, h4⟩ := this ⟨n, hn⟩
  refine ⟨w, h1, h2, h3, fun c hc => ?_⟩
  have := List.all_eq_true.mp h4 c hc
  simpa using this
section
variable {P : Program} {w : World} {K : PySem.W.Frag} {mg : Str → Option Value} {base : Heap}
theorem ok_name (B : Bi mg) (D : Dfn K mg "_law_name" s__law_name ["_law_bag_here", "_law_taken"]) (G_pick : Has P w K mg base CX0 "_law_pick" ["_law_bag_here", "_law_many"] 1 spPick) :
    Has P w K mg base CX0 "_law_name" ["_law_bag_here", "_law_taken"] 2 spName := by
  refine D.has sc__law_name (fun vs H Q E h => ?_) (fun f cdv A outer s H vs Q E hr h => ?_)
  · obtain ⟨b, c, t, ws, rfl, _⟩ := h; rfl
  · obtain ⟨b, c, t, ws, rfl, BG, ht, tb, tc, hw, k⟩ := h
    refine ⟨_, (pss_cons (ps_set (i := 2) sc__law_name.nd rfl (by first | exact Or.inl rfl | exact Or.inr rfl) pe_str)
  (C8.pss_cut (ps_if (pt_cmpR op_eq (pe_has G_pick hr (pa_cons (pv 0) (pa_cons pe_int pa_nil))) pe_int (nomark _))
  (pss_one (ps_set (i := 3) sc__law_name.nd rfl (by first | exact Or.inl rfl | exact Or.inr rfl) (pe_ix ix_list (pe_lst (pa_cons pe_str (pa_cons pe_str (pa_cons pe_str (pa_cons pe_str (pa_cons pe_str (pa_cons pe_str (pa_cons pe_str (pa_cons pe_str pa_nil))))))))) (pe_has G_pick hr (pa_cons (pv 0) (pa_cons pe_int pa_nil))) (fun _ _ => rfl))))
  (pss_one (ps_set (i := 3) sc__law_name.nd rfl (by first | exact Or.inl rfl | exact Or.inr rfl) (pe_join pe_str (pe_lc (own := [("_law_k", 5)]) (g := gName 5) (by rfl) sc__law_name.nd (pi_range1 rfl B.range (pa_cons (pe_op op_add pe_int (pe_has G_pick hr (pa_cons (pv 0) (pa_cons pe_int pa_nil)))) pa_nil)) (blkOk_by (own := [("_law_k", 5)]) (N := N__law_name) (sc := defScope s__law_name) (by decide +kernel)) (fun _ _ _ _ _ => (pg_name (i := 5) sc__law_name.nd rfl (by first | exact Or.inl rfl | exact Or.inr rfl))) (fun _ _ _ _ _ => pts_nil) (fun _ _ _ _ _ => (pe_ix ix_str (pv 2) (pe_has G_pick hr (pa_cons (pv 0) (pa_cons pe_int pa_nil))) (fun _ _ => rfl))))))))
  (pss_cons (ps_set (i := 4) sc__law_name.nd rfl (by first | exact Or.inl rfl | exact Or.inr rfl) (pe_slice sl_str (pv 3) po_none (po_some pe_int)))
  (C8.pss_cut (ps_for PassesOwn.never rfl (pi_range1 rfl B.range (pa_cons pe_int pa_nil)) (pg_name (i := 5) sc__law_name.nd rfl (by first | exact Or.inl rfl | exact Or.inr rfl))
  (pss_cons (ps_if (pt_cmpR op_notIn_seq (pv 3) (pv 1) (by rfl))
  (pss_one ps_break)
  pss_nil)
  (pss_one (ps_set (i := 3) sc__law_name.nd rfl (by first | exact Or.inl rfl | exact Or.inr rfl) (pe_op op_add_str (pv 4) (pe_ix ix_str (pv 2) (pv 5) (fun _ _ => rfl)))))))
  (pss_cons (ps_expr (pe_bm PySem.F.plainAttrs_list PySem.F.slot_list_append PySem.F.type_list_append mt_append (pv 1) (pa_cons (pv 3) pa_nil)))
  (pss_one (ps_ret (pv 3)))))))), ?_⟩
    -- the word drawn
    refine ⟨fun σ H' => ∃ w0 : Str, σ = [some (.ref b), some (.ref t), some (.str abc), some (.str w0), none, none] ∧ IsNm w0 ∧ Bag H' b c ∧ Kp [b] H H', ?_, ?_⟩
    · refine ⟨_, rfl, b, c, 12, rfl, BG, by decide, by decide, fun r H1 r0 r1 B1 k1 => ?_⟩
      refine ⟨rfl, _, rfl, ?_⟩
      refine ite2 (fun _ => ?_) (fun _ => ?_)
      · refine ⟨by show 8 ≤ sizeLine; decide, fun p np => ?_⟩
        have k2 := k1.snoc (o := .lst (menu8.map V.str)) np
        refine ⟨_, rfl, b, c, 8, rfl, B1.keep0 (Kp.new np), by decide, by decide, fun r H2 r0 r1 B2 k3 => ?_⟩
        have np' : H2 p = some (.lst (menu8.map V.str)) := k3.at_ p _ upd_same (fun z => by
          have e : p = b := by simpa using z
          obtain ⟨o, ho⟩ := B1.someB
          rw [← e, np] at ho; cases ho)
        obtain ⟨x, hx, nx⟩ := menu8_nm r.toNat (by omega)
        refine ⟨p, _, r, .str x, rfl, rfl, SqL.of np', atI_of r0 (by rw [List.getElem?_map, hx]; rfl), ?_⟩
        exact ⟨x, rfl, nx, B2, k2.trans k3⟩
      · refine ⟨⟨_, rfl⟩, ?_⟩
        refine ⟨_, rfl, b, c, 8, rfl, B1, by decide, by decide, fun r H2 r0 r1 B2 k2 => ?_⟩
        refine ⟨_, _, rfl, rfl, 1 + r, rfl, by omega, by omega, fun D hD => ?_⟩
        have kD := (k1.trans k2).snoc (o := .lst []) hD
        have Db : D ≠ b := fun z => by
          obtain ⟨o, ho⟩ := B2.someB
          rw [← z, hD] at ho; cases ho
        have Dc : D ≠ c := fun z => by
          obtain ⟨o, ho⟩ := B2.someC
          rw [← z, hD] at ho; cases ho
        have hDH : H D = none := by
          cases e : H D with
          | none => rfl
          | some o => rw [(k1.trans k2).at_ D o e (by simpa using Db)] at hD; cases hD
        refine lc_range (lo := 0) (n := (1 + r).toNat) (fun i H' => ∃ cs : List Nat, cs.length = i ∧ (∀ x ∈ cs, 97 ≤ x ∧ x ≤ 122) ∧ H' D = some (.lst (cs.map fun x => V.str ⟨#[x]⟩)) ∧ Bag H' b c ∧ Kp [b] H H')
          ⟨[], rfl, (fun x h => nomatch h), upd_same, B2.keep0 (Kp.new hD), kD⟩ ?_ ?_
        · rintro i H3 hi ⟨cs, hl, hc, h3, B3, k3⟩
          refine ⟨rfl, _, rfl, _, rfl, b, c, 26, rfl, B3, by decide, by decide, fun q H4 q0 q1 B4 k4 => ?_⟩
          have h4 : H4 D = some (.lst (cs.map fun x => V.str ⟨#[x]⟩)) := k4.at_ D _ h3 (by simpa using Db)
          refine ⟨abc, q, _, rfl, rfl, by rw [abc_len]; decide, abc_ix q0 q1, _, h4, ?_, ?_⟩
          · rw [List.length_map]; exact small1000 (by omega)
          · refine ⟨cs ++ [97 + q.toNat], by simp [hl], fun x hx => ?_, by rw [upd_same]; simp, ?_, (k3.trans k4).late hDH⟩
            · rcases List.mem_append.mp hx with h | h
              · exact hc x h
              · have e : x = 97 + q.toNat := by simpa using h
                omega
            · exact B4.keep (ms := [D]) (Kp.updL h4 (by simp)) (by simpa using Ne.symm Db) (by simpa using Ne.symm Dc)
        · rintro H3 ⟨cs, hl, hc, h3, B3, k3⟩
          refine ⟨_, D, cs.map fun x => (⟨#[x]⟩ : Str), rfl, rfl, .inl (SqL.of (by rw [h3, List.map_map]; rfl)), ?_, ?_⟩
          · rw [sum_ones, List.length_map, show (Str.ofString "").length = 0 by decide +kernel]
            omega
          · refine ⟨_, rfl, ?_, B3, k3⟩
            rw [txt_join_ones]
            refine ⟨?_, ?_, fun x hx => hc x (by simpa using hx)⟩
            · show 1 ≤ cs.toArray.size
              simp; omega
            · show cs.toArray.size ≤ 8
              simp; omega
    · rintro σ' H1 ⟨w0, rfl, n0, B1, k1⟩
      have ht1 : H1 t = some (.lst (ws.map V.str)) := k1.at_ t _ ht (by simpa using tb)
      obtain ⟨s7, sn⟩ := cut7 w0
      generalize hst : cutS w0 none (some 7) = st at s7 sn
      have sn' : ∀ c ∈ st.cps.toList, 97 ≤ c ∧ c ≤ 122 := fun c hc => n0.2.2 c (sn c hc)
      refine ⟨_, rfl, 7, rfl, w0, rfl, Nat.le_trans n0.2.1 (by decide), ?_⟩
      show C8.tCut _ _ _ _ _
      refine ⟨fun σ H' => ∃ (x : Str) (v : Option V), σ = [some (.ref b), some (.ref t), some (.str abc), some (.str x), some (.str st), v] ∧ IsNm x ∧ x ∉ ws ∧ H' = H1, ?_, ?_⟩
      · refine ⟨26, rfl, by decide, by decide, ?_⟩
        refine for_range (lo := 0) (n := 26) (fun i σ H' => ∃ (x : Str) (v : Option V), σ = [some (.ref b), some (.ref t), some (.str abc), some (.str x), some (.str st), v] ∧ IsNm x ∧ H' = H1 ∧ (∀ j, j + 1 < i → stemL st j ∈ ws) ∧ (0 < i → x = stemL st (i - 1)))
          ⟨w0, none, by rw [← hst]; rfl, n0, rfl, fun j h => absurd h (by omega), fun h => absurd h (by omega)⟩ ?_ ?_
        · rintro i σ H' hi ⟨x, v, rfl, nx, rfl, hj, hx⟩
          refine ⟨_, rfl, _, rfl, t, _, rfl, .inl (SqL.of ht1), rfl, flat_strs ws, _, rfl, ?_⟩
          rw [inV_strs]
          by_cases hm : x ∈ ws
          · rw [decide_eq_true hm]
            refine iteF ?_
            refine ⟨_, rfl, _, rfl, _, rfl, abc, _, _, rfl, rfl, by rw [abc_len]; decide, abc_ix (r := 0 + (i : Int)) (by omega) (by omega), _, _, rfl, rfl, ?_, ?_⟩
            · show st.length + 1 ≤ sizeLine
              exact Nat.le_trans (Nat.succ_le_succ s7) (by decide)
            · refine ⟨stemL st i, some (.int (0 + (i : Int))), ?_, stem_nm s7 sn' (by omega), rfl, fun j h => ?_, fun _ => rfl⟩
              · have e : (0 + (i : Int)).toNat = i := by omega
                rw [e]
                rfl
              · by_cases e : j + 1 < i
                · exact hj j e
                · have e2 : j = i - 1 := by omega
                  rw [e2, ← hx (by omega)]
                  exact hm
          · rw [decide_eq_false hm]
            refine iteT ?_
            exact ⟨x, _, rfl, nx, hm, rfl⟩
        · rintro σ H' ⟨x, v, rfl, nx, rfl, hj, hx⟩
          refine ⟨x, v, rfl, nx, fun hm => all_taken (s := st) hw fun j h => ?_, rfl⟩
          by_cases e : j + 1 < 26
          · exact hj j e
          · have e2 : j = 25 := by omega
            have := hx (by decide)
            rw [e2, ← this]
            exact hm
      · rintro σ' H' ⟨x, v, rfl, nx, nm, rfl⟩
        refine ⟨_, rfl, .inl ⟨rfl, _, SqL.of ht1⟩, _, rfl, t, _, _, rfl, rfl, ht1, by rw [List.length_map]; exact small1000 (by omega), ?_⟩
        refine ⟨_, rfl, ?_⟩
        refine k x _ nx nm (B1.keep (ms := [t]) (Kp.updL ht1 (by simp)) (by simpa using Ne.symm tb) (by simpa using Ne.symm tc)) (by rw [upd_same]; simp) ?_
        exact (k1.mono (by simp)).trans (Kp.updL ht1 (by simp))
end
end Fm

namespace Fm
open PySem PySem.Spec PyProof.Rows L2
theorem Kp.via {ms ms' : List Addr} {H H1 H2 : Hp} (k1 : Kp ms H H1) (k2 : Kp ms' H1 H2) (h : ∀ x ∈ ms', x ∈ ms ∨ H x = none) : Kp ms H H2 := by
  refine ⟨fun a o e n => k2.at_ a o (k1.at_ a o e n) fun z => ?_, fun a xs e => k2.tp a xs (k1.tp a xs e)⟩
  rcases h a z with h | h
  · exact n h
  · rw [h] at e
    cases e
theorem Bag.new {H : Hp} {b c p : Addr} (B : Bag H b c) (h : H p = none) : p ≠ b ∧ p ≠ c := by
  obtain ⟨o, ho⟩ := B.someB
  obtain ⟨o', ho'⟩ := B.someC
  refine ⟨fun z => ?_, fun z => ?_⟩
  · rw [← z, h] at ho
    cases ho
  · rw [← z, h] at ho'
    cases ho'
def spTables : Sp := fun vs H Q _ => ∃ (b c : Addr), vs = [.ref b] ∧ Bag H b c ∧ ∀ (t : Addr) (xs : List V) (tbs : List (Str × List Str)) (H' : Hp), Bag H' b c → Kp [b] H H' → H t = none → H' t = some (.lst xs) → ImAll H' 2 xs (tbs.map dTab) → GoodTs tbs → Q (.ref t) H'
theorem five : ∀ n : Nat, n < 5 → ∃ k : Nat, ([V.int 2, V.int 1, V.int 2, V.int 3, V.int 5] : List V)[n]? = some (.int k) ∧ 1 ≤ k ∧ k ≤ 5
  | 0, _ => ⟨2, rfl, by decide, by decide⟩
  | 1, _ => ⟨1, rfl, by decide, by decide⟩
  | 2, _ => ⟨2, rfl, by decide, by decide⟩
  | 3, _ => ⟨3, rfl, by decide, by decide⟩
  | 4, _ => ⟨5, rfl, by decide, by decide⟩
  | n + 5, h => absurd h (by omega)
section
variable {P : Program} {w : World} {K : PySem.W.Frag} {mg : Str → Option Value} {base : Heap}
theorem ok_tables (B : Bi mg) (D : Dfn K mg "_law_tables" s__law_tables ["_law_bag_here"]) (G_pick : Has P w K mg base CX0 "_law_pick" ["_law_bag_here", "_law_many"] 1 spPick) (G_name : Has P w K mg base CX0 "_law_name" ["_law_bag_here", "_law_taken"] 2 spName) :
    Has P w K mg base CX0 "_law_tables" ["_law_bag_here"] 3 spTables := by
  refine D.has sc__law_tables (fun vs H Q E h => ?_) (fun f cdv A outer s H vs Q E hr h => ?_)
  · obtain ⟨b, c, rfl, _⟩ := h; rfl
  · obtain ⟨b, c, rfl, BG, k⟩ := h
    have hr1 : Room 1 _ := hr.mono (by decide)
    refine ⟨_, (pss_cons (ps_set (i := 1) sc__law_tables.nd rfl (by first | exact Or.inl rfl | exact Or.inr rfl) (pe_lst pa_nil))
  (pss_cons (ps_set (i := 2) sc__law_tables.nd rfl (by first | exact Or.inl rfl | exact Or.inr rfl) (pe_lst pa_nil))
  (pss_cons (ps_for PassesOwn.never rfl (pi_range1 rfl B.range (pa_cons (pe_ix ix_list (pe_lst (pa_cons pe_int (pa_cons pe_int (pa_cons pe_int (pa_cons pe_int (pa_cons pe_int pa_nil)))))) (pe_has G_pick hr1 (pa_cons (pv 0) (pa_cons pe_int pa_nil))) (fun _ _ => rfl)) pa_nil)) (pg_name (i := 3) sc__law_tables.nd rfl (by first | exact Or.inl rfl | exact Or.inr rfl))
  (pss_cons (ps_set (i := 4) sc__law_tables.nd rfl (by first | exact Or.inl rfl | exact Or.inr rfl) (pe_has G_name hr (pa_cons (pv 0) (pa_cons (pv 1) pa_nil))))
  (pss_cons (ps_set (i := 5) sc__law_tables.nd rfl (by first | exact Or.inl rfl | exact Or.inr rfl) (pe_lst pa_nil))
  (pss_cons (ps_for PassesOwn.never rfl (pi_range1 rfl B.range (pa_cons (pe_op op_add pe_int (pe_has G_pick hr1 (pa_cons (pv 0) (pa_cons pe_int pa_nil)))) pa_nil)) (pg_name (i := 6) sc__law_tables.nd rfl (by first | exact Or.inl rfl | exact Or.inr rfl))
  (pss_one (ps_expr (pe_has G_name hr (pa_cons (pv 0) (pa_cons (pv 5) pa_nil))))))
  (pss_one (ps_expr (pe_bm PySem.F.plainAttrs_list PySem.F.slot_list_append PySem.F.type_list_append mt_append (pv 2) (pa_cons (pe_tup (pa_cons (pv 4) (pa_cons (pe_callTy call_tuple_of (by rfl) B.tuple (by decide +kernel) (pa_cons (pv 5) pa_nil)) pa_nil))) pa_nil))))))))
  (pss_one (ps_ret (pv 2)))))), ?_⟩
    refine ⟨by show 0 ≤ sizeLine; decide, fun pt npt => ⟨by show 0 ≤ sizeLine; decide, fun pl npl => ⟨by show 5 ≤ sizeLine; decide, fun p5 np5 => ?_⟩⟩⟩
    have tl : pt ≠ pl := fun z => by rw [← z, upd_same] at npl; cases npl
    have hpl : H pl = none := by rw [upd_ne (Ne.symm tl)] at npl; exact npl
    have k0 : Kp [] H (upd (upd (upd H pt (.lst [])) pl (.lst [])) p5 (.lst [.int 2, .int 1, .int 2, .int 3, .int 5])) := ((Kp.new npt).snoc npl).snoc np5
    have e1 : upd (upd (upd H pt (.lst [])) pl (.lst [])) p5 (.lst [.int 2, .int 1, .int 2, .int 3, .int 5]) pt = some (.lst []) := by
      have x1 : pt ≠ p5 := fun z => by rw [← z, upd_ne tl, upd_same] at np5; cases np5
      rw [upd_ne x1, upd_ne tl, upd_same]
    have e2 : upd (upd (upd H pt (.lst [])) pl (.lst [])) p5 (.lst [.int 2, .int 1, .int 2, .int 3, .int 5]) pl = some (.lst []) := by
      have x1 : pl ≠ p5 := fun z => by rw [← z, upd_same] at np5; cases np5
      rw [upd_ne x1, upd_same]
    have e3 : upd (upd (upd H pt (.lst [])) pl (.lst [])) p5 (.lst [.int 2, .int 1, .int 2, .int 3, .int 5]) p5 = some (.lst [.int 2, .int 1, .int 2, .int 3, .int 5]) := upd_same
    obtain ⟨tb, tc⟩ := BG.new npt
    obtain ⟨lb, lc⟩ := BG.new hpl
    refine ⟨_, rfl, b, c, 5, rfl, BG.keep0 k0, by decide, by decide, fun r H1 r0 r1 B1 k1 => ?_⟩
    have p5b : p5 ≠ b := (BG.keep0 ((Kp.new npt).snoc npl) |>.new np5).1
    have f1 : H1 pt = some (.lst []) := k1.at_ _ _ e1 (by simpa using tb)
    have f2 : H1 pl = some (.lst []) := k1.at_ _ _ e2 (by simpa using lb)
    have f3 : H1 p5 = _ := k1.at_ _ _ e3 (by simpa using p5b)
    have kH1 : Kp [b] H H1 := k0.zero.trans k1
    obtain ⟨kk, hk, kk1, kk5⟩ := five r.toNat (by omega)
    refine ⟨p5, _, r, .int kk, rfl, rfl, SqL.of f3, atI_of r0 hk, (kk : Int), rfl, by omega, by omega, ?_⟩
    refine for_range (lo := 0) (n := (kk : Int).toNat) (fun i σ H' => (∃ v3 v4 v5 v6 : Option V, σ = [some (.ref b), some (.ref pt), some (.ref pl), v3, v4, v5, v6]) ∧ Bag H' b c ∧ Kp [b] H H' ∧
        ∃ (tbs : List (Str × List Str)) (xs : List V), tbs.length = i ∧ H' pt = some (.lst ((tbs.map (·.1)).map V.str)) ∧ H' pl = some (.lst xs) ∧ xs.length = i ∧ ImAll H' 2 xs (tbs.map dTab) ∧ (∀ t ∈ tbs, GoodT t) ∧ (tbs.map (·.1)).Nodup)
      ⟨⟨none, none, none, none, rfl⟩, B1, kH1, [], [], rfl, f1, f2, rfl, .nil, (fun t h => nomatch h), List.nodup_nil⟩ ?_ ?_
    · rintro i σ H2 hi ⟨⟨v3, v4, v5, v6, rfl⟩, B2, k2, tbs, xs, t1, t2, t3, t4, t5, t6, t7⟩
      have hi5 : i < 5 := by omega
      refine ⟨_, rfl, _, rfl, b, c, pt, tbs.map (·.1), rfl, B2, t2, tb, tc, by rw [List.length_map]; omega, fun w1 H3 n1 nm1 B3 h3 k3 => ?_⟩
      have k3' : Kp [b] H H3 := k2.via k3 (by simp [npt])
      have lt : pl ∉ [b, pt] := by simp [lb, Ne.symm tl]
      have g3 : H3 pl = some (.lst xs) := k3.at_ _ _ t3 lt
      have i3 : ImAll H3 2 xs (tbs.map dTab) := ImAll.kp k3 t5
      refine ⟨by show 0 ≤ sizeLine; decide, fun pf npf => ?_⟩
      obtain ⟨fb, fc⟩ := B3.new npf
      have ft : pf ≠ pt := Ne.symm (ne_of_none h3 npf)
      have fl : pf ≠ pl := Ne.symm (ne_of_none g3 npf)
      have hpf : H pf = none := k3'.freeB B3 npf
      have k4 : Kp [b] H (upd H3 pf (.lst [])) := k3'.snoc npf
      refine ⟨_, rfl, b, c, 4, rfl, B3.keep0 (Kp.new npf), by decide, by decide, fun r4 H4 r40 r41 B4 k4' => ?_⟩
      have h4 : H4 pt = some (.lst ((tbs.map (·.1) ++ [w1]).map V.str)) := k4'.at_ _ _ (by rw [upd_ne (Ne.symm ft)]; exact h3) (by simpa using tb)
      have g4 : H4 pl = some (.lst xs) := k4'.at_ _ _ (by rw [upd_ne (Ne.symm fl)]; exact g3) (by simpa using lb)
      have f4 : H4 pf = some (.lst []) := k4'.at_ _ _ upd_same (by simpa using fb)
      have i4 : ImAll H4 2 xs (tbs.map dTab) := ImAll.kp k4' (ImAll.kp (Kp.new (ms := []) npf) i3)
      have k5 : Kp [b] H H4 := k4.trans k4'
      refine ⟨_, _, rfl, rfl, 1 + r4, rfl, by omega, by omega, ?_⟩
      refine for_range (lo := 0) (n := (1 + r4).toNat) (fun j σ H' => (∃ v6 : Option V, σ = [some (.ref b), some (.ref pt), some (.ref pl), some (.int (0 + (i : Int))), some (.str w1), some (.ref pf), v6]) ∧ Bag H' b c ∧ Kp [b] H H' ∧
          H' pt = some (.lst ((tbs.map (·.1) ++ [w1]).map V.str)) ∧ H' pl = some (.lst xs) ∧ ImAll H' 2 xs (tbs.map dTab) ∧ ∃ ws : List Str, ws.length = j ∧ H' pf = some (.lst (ws.map V.str)) ∧ (∀ w ∈ ws, IsNm w) ∧ ws.Nodup)
        ⟨⟨v6, rfl⟩, B4, k5, h4, g4, i4, [], rfl, f4, (fun w h => nomatch h), List.nodup_nil⟩ ?_ ?_
      · rintro j σ H5 hj ⟨⟨v6, rfl⟩, B5, k5', a1, a2, a3, ws, w1', w2, w3, w4⟩
        refine ⟨_, rfl, _, rfl, b, c, pf, ws, rfl, B5, w2, fb, fc, by omega, fun y H6 ny nmy B6 h6 k6 => ?_⟩
        have n1' : pt ∉ [b, pf] := by simp [tb, Ne.symm ft]
        have n2' : pl ∉ [b, pf] := by simp [lb, Ne.symm fl]
        refine ⟨⟨_, rfl⟩, B6, k5'.via k6 (by simp [hpf]), k6.at_ _ _ a1 n1', k6.at_ _ _ a2 n2', ImAll.kp k6 a3, ws ++ [y], by simp [w1'], h6, fun z hz => ?_, nd_snoc w4 nmy⟩
        rcases List.mem_append.mp hz with h | h
        · exact w3 z h
        · rw [List.mem_singleton.mp h]; exact ny
      · rintro σ H5 ⟨⟨v6, rfl⟩, B5, k5', a1, a2, a3, ws, w1', w2, w3, w4⟩
        refine ⟨_, rfl, .inl ⟨rfl, _, SqL.of a2⟩, _, rfl, _, rfl, pf, _, rfl, .inl ⟨SqL.of w2, fun u nu => ⟨by show 2 ≤ sizeLine; decide, fun q nq => ?_⟩⟩⟩
        have k6 : Kp [] H5 (upd (upd H5 u (.tup (ws.map V.str))) q (.tup [.str w1, .ref u])) := (Kp.new nu).snoc nq
        have a2' := k6.at_ _ _ a2 (fun z => nomatch z)
        refine ⟨pl, _, _, rfl, rfl, a2', by rw [t4]; exact small1000 (by omega), ?_⟩
        have k7 : Kp [pl] H5 (upd (upd (upd H5 u (.tup (ws.map V.str))) q (.tup [.str w1, .ref u])) pl (.lst (xs ++ [.ref q]))) := k6.zero.trans (Kp.updL a2' (by simp))
        have uq : u ≠ q := fun z => by rw [← z, upd_same] at nq; cases nq
        have ul : u ≠ pl := Ne.symm (ne_of_none a2 nu)
        have ql : q ≠ pl := fun z => by
          rw [z, upd_ne (Ne.symm ul), a2] at nq; cases nq
        refine ⟨⟨_, _, _, _, rfl⟩, B5.keep k7 (by simpa using Ne.symm lb) (by simpa using Ne.symm lc), k5'.via k7 (by simp [hpl]), tbs ++ [(w1, ws)], xs ++ [.ref q], by simp [t1], ?_, upd_same, by simp [t4], ?_, ?_, ?_⟩
        · have := k7.at_ _ _ a1 (by simpa using tl)
          rw [this]; simp
        · rw [List.map_append]
          refine DtAll.append (ImAll.kp k7 a3) (.cons ?_ .nil)
          have hu' : upd (upd (upd H5 u (.tup (ws.map V.str))) q (.tup [.str w1, .ref u])) pl (.lst (xs ++ [.ref q])) u = some (.tup (ws.map V.str)) := by rw [upd_ne ul, upd_ne uq, upd_same]
          have hq' : upd (upd (upd H5 u (.tup (ws.map V.str))) q (.tup [.str w1, .ref u])) pl (.lst (xs ++ [.ref q])) q = some (.tup [.str w1, .ref u]) := by rw [upd_ne ql, upd_same]
          exact .tup hq' ⟨by simp, _, hq'⟩ (.cons (.str _ (Nat.le_trans n1.2.1 (by decide))) (.cons (.tup hu' ⟨by rw [List.length_map]; omega, _, hu'⟩ (dtAll_strs fun w' hw' => Nat.le_trans (w3 w' hw').2.1 (by decide))) .nil))
        · intro t ht
          rcases List.mem_append.mp ht with h | h
          · exact t6 t h
          · rw [List.mem_singleton.mp h]
            exact ⟨n1, w3, w4, by show 1 ≤ ws.length; omega, by show ws.length ≤ 4; omega⟩
        · rw [List.map_append]
          exact nd_snoc t7 nm1
    · rintro σ H2 ⟨⟨v3, v4, v5, v6, rfl⟩, B2, k2, tbs, xs, t1, t2, t3, t4, t5, t6, t7⟩
      refine ⟨_, rfl, k pl xs tbs H2 B2 k2 hpl t3 t5 ⟨t6, t7, by omega, by omega⟩⟩
end
end Fm

namespace Fm
open PySem PySem.Spec PyProof.Rows L2
def spValue : Sp := fun vs H Q _ => ∃ (b c : Addr), vs = [.ref b] ∧ Bag H b c ∧ ∀ (v : Int) H', InV v → Bag H' b c → Kp [b] H H' → Q (.int v) H'
/-! ### the pool of odd strings -/
def txA : List Str := ["b", "a", "", "x y", "aa", "Z", "0", "u1", "c", "-1", "d", "unknown", "A b", "~", "z", "e", "12", "row"]
def txB : List Str := ["group", " ", "f", "ab", "ba", "x", "y", "('a',)", "None", "k", "l"]
def txs : List Str := txA ++ txB
theorem txs_len : txs.length = 29 := by decide +kernel
theorem txs_nd : txs.Nodup := by decide +kernel
theorem txs_short : ∀ t ∈ txs, t.length ≤ 100 := by decide +kernel
theorem txs_ok : ∀ t ∈ txs, PyData.strOk t = true := by decide +kernel
theorem step29 : ∀ a : Fin 29, ∀ d : Fin 29, a.1 ≠ 0 → d.1 ≠ 0 → (a.1 * d.1) % 29 ≠ 0 := by decide +kernel
def polK (f st k : Nat) : Nat := (f + st * k) % 29
theorem polK_lt (f st k : Nat) : polK f st k < 29 := Nat.mod_lt _ (by decide)
theorem polK_inj {f st j k : Nat} (h1 : 1 ≤ st) (h2 : st < 29) (hj : j < 29) (hk : k < 29) (h : polK f st j = polK f st k) : j = k := by
  have key : ∀ {j k : Nat}, j < k → k < 29 → polK f st j = polK f st k → False := fun {j k} hjk hk h => by
    have e : st * k = st * j + st * (k - j) := by rw [← Nat.mul_add]; congr 1; omega
    have z := step29 ⟨st, h2⟩ ⟨k - j, by omega⟩ (by show st ≠ 0; omega) (by show k - j ≠ 0; omega)
    unfold polK at h
    rw [e] at h
    have z : st * (k - j) % 29 ≠ 0 := z
    generalize st * (k - j) = c at *
    generalize st * j = a at *
    omega
  rcases Nat.lt_trichotomy j k with q | q | q
  · exact (key q hk h).elim
  · exact q
  · exact (key q hj h.symm).elim
def pol (f st : Nat) : List Str := (List.range 29).map fun k => txs[polK f st k]!
theorem txs_get {i : Nat} (h : i < 29) : txs[i]? = some (txs[i]!) := by
  have : i < txs.length := by rw [txs_len]; exact h
  rw [List.getElem?_eq_getElem this, getElem!_pos txs i this]
theorem pol_len (f st : Nat) : (pol f st).length = 29 := by unfold pol; rw [List.length_map, List.length_range]
theorem pol_mem {f st : Nat} {t : Str} (h : t ∈ pol f st) : t ∈ txs := by
  obtain ⟨k, _, rfl⟩ := List.mem_map.mp h
  exact List.mem_of_getElem? (txs_get (polK_lt f st k))
theorem pol_nd {f st : Nat} (h1 : 1 ≤ st) (h2 : st < 29) : (pol f st).Nodup := by
  unfold pol
  refine List.pairwise_map.mpr ?_
  refine (List.nodup_range (n := 29)).imp_of_mem fun {j k} hj hk hne e => hne ?_
  have hj := List.mem_range.mp hj
  have hk := List.mem_range.mp hk
  refine polK_inj (f := f) h1 h2 hj hk ?_
  have a := txs_get (polK_lt f st j)
  have b := txs_get (polK_lt f st k)
  obtain ⟨a1, a2⟩ := List.getElem?_eq_some_iff.mp a
  obtain ⟨b1, b2⟩ := List.getElem?_eq_some_iff.mp b
  exact nodup_at txs_nd a1 b1 (by rw [a2, b2]; exact e)
def Pool (us : List Str) : Prop := us.length = 29 ∧ us.Nodup ∧ ∀ t ∈ us, t ∈ txs
def spPool : Sp := fun vs H Q _ => ∃ (b c : Addr), vs = [.ref b] ∧ Bag H b c ∧ ∀ (L : Addr) (us : List Str) H', Pool us → Bag H' b c → Kp [b] H H' → H L = none → H' L = some (.lst (us.map V.str)) → Q (.ref L) H'
section
variable {P : Program} {w : World} {K : PySem.W.Frag} {mg : Str → Option Value} {base : Heap}
theorem ok_value (B : Bi mg) (D : Dfn K mg "_law_value" s__law_value ["_law_bag_here"]) (G_pick : Has P w K mg base CX0 "_law_pick" ["_law_bag_here", "_law_many"] 1 spPick) : Has P w K mg base CX0 "_law_value" ["_law_bag_here"] 2 spValue := by
  refine D.has sc__law_value (fun vs H Q E h => ?_) (fun f cdv A outer s H vs Q E hr h => ?_)
  · obtain ⟨b, c, rfl, _⟩ := h; rfl
  · obtain ⟨b, c, rfl, BG, k⟩ := h
    refine ⟨_, (pss_cons (ps_if (pt_cmpR op_eq (pe_has G_pick (hr.mono (by omega)) (pa_cons (pv 0) (pa_cons pe_int pa_nil))) pe_int (nomark _))
  (pss_cons (ps_set (i := 1) sc__law_value.nd rfl (by first | exact Or.inl rfl | exact Or.inr rfl) (pe_op op_mul (pe_has G_pick (hr.mono (by omega)) (pa_cons (pv 0) (pa_cons pe_int pa_nil))) pe_int))
  (pss_one (ps_ret (pe_op op_sub (pe_op op_mod (pe_callTy call_int1 (by rfl) B.int (by decide +kernel) (pa_cons (pe_op op_add (pv 1) (pe_has G_pick (hr.mono (by omega)) (pa_cons (pv 0) (pa_cons pe_int pa_nil)))) pa_nil)) (pe_op op_add (pe_op op_mul pe_int (pe_op op_pow pe_int pe_int)) pe_int)) (pe_op op_pow pe_int pe_int)))))
  pss_nil)
  (pss_one (ps_ret (pe_op op_sub (pe_has G_pick (hr.mono (by omega)) (pa_cons (pv 0) (pa_cons pe_int pa_nil))) pe_int)))), ?_⟩
    refine ⟨_, rfl, b, c, 8, rfl, BG, by decide, by decide, fun r H1 r0 r1 B1 k1 => ⟨rfl, _, rfl, ?_⟩⟩
    refine ite2 (fun _ => ?_) (fun _ => ?_)
    · refine ⟨_, rfl, b, c, 44722, rfl, B1, by decide, by decide, fun r2 H2 r20 r21 B2 k2 => ⟨_, _, rfl, rfl, .inr ⟨by decide, by decide⟩, ?_⟩⟩
      refine ⟨_, rfl, _, rfl, b, c, 44722, rfl, B2, by decide, by decide, fun r3 H3 r30 r31 B3 k3 => ⟨_, _, rfl, rfl, .inl ⟨_, rfl, ?_⟩⟩⟩
      refine ⟨_, _, rfl, rfl, ⟨by decide, by decide, by decide⟩, _, _, rfl, rfl, .inl ⟨by decide, by decide⟩, _, _, rfl, rfl, _, _, rfl, rfl, ?_, _, _, rfl, rfl, ⟨by decide, by decide, by decide⟩, _, _, rfl, rfl, ?_⟩
      · show (0 : Int) < 2 * 10 ^ Int.toNat 9 + 1
        decide
      · refine k _ _ ?_ B3 ((k1.trans k2).trans k3)
        have e : (10 : Int) ^ Int.toNat 9 = 1000000000 := by decide
        have e0 := Int.emod_nonneg (r2 * 44722 + r3) (show (2 * 10 ^ Int.toNat 9 + 1 : Int) ≠ 0 by decide)
        have e1 := Int.emod_lt_of_pos (r2 * 44722 + r3) (show (0 : Int) < 2 * 10 ^ Int.toNat 9 + 1 by decide)
        rw [e] at e0 e1 ⊢
        exact ⟨by omega, by omega⟩
    · refine ⟨_, rfl, b, c, 5, rfl, B1, by decide, by decide, fun r2 H2 r20 r21 B2 k2 => ⟨_, _, rfl, rfl, ?_⟩⟩
      exact k _ _ ⟨by omega, by omega⟩ B2 (k1.trans k2)
theorem ok_pool (B : Bi mg) (D : Dfn K mg "_law_pool" s__law_pool ["_law_bag_here"]) (G_pick : Has P w K mg base CX0 "_law_pick" ["_law_bag_here", "_law_many"] 1 spPick) : Has P w K mg base CX0 "_law_pool" ["_law_bag_here"] 2 spPool := by
  refine D.has sc__law_pool (fun vs H Q E h => ?_) (fun f cdv A outer s H vs Q E hr h => ?_)
  · obtain ⟨b, c, rfl, _⟩ := h; rfl
  · obtain ⟨b, c, rfl, BG, k⟩ := h
    have hu := hu_of hr
    refine ⟨_, (pss_cons (ps_set (i := 1) sc__law_pool.nd rfl (by first | exact Or.inl rfl | exact Or.inr rfl) (pe_lst (pa_cons pe_str (pa_cons pe_str (pa_cons pe_str (pa_cons pe_str (pa_cons pe_str (pa_cons pe_str (pa_cons pe_str (pa_cons pe_str (pa_cons pe_str (pa_cons pe_str (pa_cons pe_str (pa_cons pe_str (pa_cons pe_str (pa_cons pe_str (pa_cons pe_str (pa_cons pe_str (pa_cons pe_str (pa_cons pe_str pa_nil))))))))))))))))))))
  (pss_cons (ps_set (i := 1) sc__law_pool.nd rfl (by first | exact Or.inl rfl | exact Or.inr rfl) (pe_op op_cat (pv 1) (pe_lst (pa_cons pe_str (pa_cons pe_str (pa_cons pe_str (pa_cons pe_str (pa_cons pe_str (pa_cons pe_str (pa_cons pe_str (pa_cons pe_str (pa_cons pe_str (pa_cons pe_str (pa_cons pe_str pa_nil))))))))))))))
  (pss_cons (ps_set (i := 2) sc__law_pool.nd rfl (by first | exact Or.inl rfl | exact Or.inr rfl) (pe_has G_pick (hr.mono (by omega)) (pa_cons (pv 0) (pa_cons pe_int pa_nil))))
  (pss_cons (ps_set (i := 3) sc__law_pool.nd rfl (by first | exact Or.inl rfl | exact Or.inr rfl) (pe_op op_add pe_int (pe_has G_pick (hr.mono (by omega)) (pa_cons (pv 0) (pa_cons pe_int pa_nil)))))
  (pss_one (ps_ret (pe_lc (own := [("_law_k", 4)]) (g := gName 4) (by rfl) sc__law_pool.nd (pi_range1 rfl B.range (pa_cons pe_int pa_nil)) (blkOk_by (own := [("_law_k", 4)]) (N := N__law_pool) (sc := defScope s__law_pool) (by decide +kernel)) (fun _ _ _ _ _ => (pg_name (i := 4) sc__law_pool.nd rfl (by first | exact Or.inl rfl | exact Or.inr rfl))) (fun _ _ _ _ _ => pts_nil) (fun _ _ _ _ _ => (pe_ix (r := rIxL K) ix_list (pv 1) (pe_op op_mod (pe_op op_add (pv 2) (pe_op op_mul (pv 3) (pv 4))) pe_int) (fun _ _ => rfl)))))))))), ?_⟩
    refine ⟨by show 18 ≤ sizeLine; decide, fun p1 n1 => ?_⟩
    have h1 : upd H p1 (.lst (txA.map V.str)) p1 = some (.lst (txA.map V.str)) := upd_same
    refine ⟨_, rfl, by show 11 ≤ sizeLine; decide, fun p2 n2 => ?_⟩
    have h12 : upd (upd H p1 (.lst (txA.map V.str))) p2 (.lst (txB.map V.str)) p1 = some (.lst (txA.map V.str)) := (Kp.new (ms := []) n2).at_ _ _ h1 (fun z => nomatch z)
    refine ⟨p1, p2, txA.map V.str, txB.map V.str, rfl, rfl, h12, upd_same, by show 29 ≤ sizeLine; decide, fun p3 n3 => ?_⟩
    rw [← List.map_append]
    have hf3 : H p3 = none := ((Kp.new (ms := []) n1).snoc (o := .lst (txB.map V.str)) n2).same.free n3
    have p3b : p3 ∉ [b] := fun z => by
      have z : p3 = b := by simpa using z
      obtain ⟨o, ho⟩ := BG.someB
      rw [← z, hf3] at ho; cases ho
    refine ⟨_, rfl, b, c, 29, rfl, BG.keep0 (((Kp.new n1).snoc n2).snoc n3), by decide, by decide, fun r1 H4 r10 r11 B4 k4 => ?_⟩
    refine ⟨_, rfl, b, c, 28, rfl, B4, by decide, by decide, fun r2 H5 r20 r21 B5 k5 => ⟨_, _, rfl, rfl, ?_⟩⟩
    have hp5 : H5 p3 = some (.lst (txs.map V.str)) := (k4.trans k5).at_ _ _ upd_same p3b
    have k15 : Kp [b] H H5 := ((((Kp.new n1).snoc n2).snoc n3).trans k4).trans k5
    refine ⟨29, rfl, by decide, by decide, fun D hD => ?_⟩
    have Db : D ∉ [b] := fun z => by
      have z : D = b := by simpa using z
      obtain ⟨o, ho⟩ := B5.someB
      rw [← z, hD] at ho; cases ho
    have Dc : D ≠ c := (B5.new hD).2
    have hDH : H D = none := by
      cases e : H D with
      | none => rfl
      | some o => rw [k15.at_ D o e Db] at hD; cases hD
    refine lc_range (lo := 0) (n := Int.toNat 29) (fun i H' => H' D = some (.lst (((pol r1.toNat (1 + r2).toNat).take i).map V.str)) ∧ Bag H' b c ∧ Kp [b] H H' ∧ H' p3 = some (.lst (txs.map V.str))) ⟨upd_same, B5.keep0 (Kp.new hD), k15.snoc hD, (Kp.new (ms := []) hD).at_ _ _ hp5 (fun z => nomatch z)⟩ ?_ ?_
    · rintro i H6 hi ⟨h6, B6, k6, hp6⟩
      have hi : i < 29 := hi
      have ep : (pol r1.toNat (1 + r2).toNat)[i]? = some (txs[polK r1.toNat (1 + r2).toNat i]!) := by
        unfold pol
        rw [List.getElem?_map, List.getElem?_range hi]; rfl
      have ec : ((r1 + (1 + r2) * (0 + (i : Int))) % 29 : Int) = ((polK r1.toNat (1 + r2).toNat i : Nat) : Int) := by
        have e1 : ((r1.toNat : Nat) : Int) = r1 := Int.toNat_of_nonneg r10
        have e2 : (((1 + r2).toNat : Nat) : Int) = 1 + r2 := Int.toNat_of_nonneg (by omega)
        unfold polK
        rw [Int.natCast_emod, Int.natCast_add, Int.natCast_mul, e1, e2, Int.zero_add]; rfl
      refine ⟨rfl, _, rfl, _, rfl, _, rfl, _, rfl, _, _, rfl, rfl, ?_, _, _, rfl, rfl, _, _, rfl, rfl, by show (0 : Int) < 29; decide, ?_⟩
      · have e : (2 : Int) ^ 64 = 18446744073709551616 := by decide
        exact .inl ⟨by rw [e]; omega, by rw [e]; omega⟩
      refine ⟨p3, _, _, _, rfl, rfl, SqL.of hp6, ec ▸ atI_nat (x := V.str (txs[polK r1.toNat (1 + r2).toNat i]!)) (by rw [List.getElem?_map, txs_get (polK_lt _ _ _)]; rfl), _, h6, ?_, ?_, B6.keep (ms := [D]) (Kp.updL h6 (by simp)) (by simpa using fun z => Db (by simp [z])) (by simpa using Ne.symm Dc), k6.late hDH, ?_⟩
      · rw [List.length_map]
        have : ((pol r1.toNat (1 + r2).toNat).take i).length = min i _ := List.length_take
        exact small1000 (by omega)
      · rw [upd_same, take_snoc ep, List.map_append]; rfl
      · rw [upd_ne (ne_of_none hp5 hD)]; exact hp6
    · rintro H6 ⟨h6, B6, k6, hp6⟩
      rw [show Int.toNat 29 = (pol r1.toNat (1 + r2).toNat).length from (pol_len _ _).symm, List.take_length] at h6
      exact k D _ H6 ⟨pol_len _ _, pol_nd (by omega) (by omega), fun t ht => pol_mem ht⟩ B6 k6 hDH h6
end
end Fm

namespace Fm
open PySem PySem.Spec PyProof.Rows L2
/-! ### the drawn pattern -/
theorem RawAll.new {ms : List Addr} {H : Hp} {S : Addr} (hS : H S = none) : ∀ {xs : List V} {ps : List (Str × List Key)}, RawAll ms H xs ps → RawAll (S :: ms) H xs ps
  | _, _, .nil => .nil
  | _, _, .cons a b c d => .cons a b (fun z => by
      rcases List.mem_cons.mp z with rfl | z
      · rw [hS] at b; cases b
      · exact c z) (d.new hS)
theorem tab_in {H : Hp} {n : Nat} {xs : List V} {tbs : List (Str × List Str)} {i : Nat} {u : V} (ix : ImAll H n xs (tbs.map dTab)) (hu : xs[i]? = some u) : ∃ a b t, u = .ref a ∧ tbs[i]? = some t ∧ H a = some (.tup [.str t.1, .ref b]) ∧ H b = some (.tup (t.2.map V.str)) := by
  obtain ⟨du, hdu, dt⟩ := ix.getV hu
  rw [List.getElem?_map] at hdu
  cases et : tbs[i]? with
  | none => rw [et] at hdu; cases hdu
  | some tt =>
    rw [et] at hdu
    cases hdu
    cases dt with
    | tup ra la aa =>
      cases aa with
      | cons a1 a2 =>
        cases a1
        cases a2 with
        | cons a3 a4 =>
          cases a4
          cases a3 with
          | tup rb lb ab => exact ⟨_, _, tt, rfl, rfl, ra, by rw [rb, DtAll.strs ab]⟩
structure PSt (b c t R U p : Addr) (xs : List V) (tbs : List (Str × List Str)) (pl : List Str) (zs : List V) (ps : List (Str × List Key)) (us : List Str) (H : Hp) (ms : List Addr) (H' : Hp) : Prop where
  bag : Bag H' b c
  kp : Kp [b] H H'
  ht : H' t = some (.lst xs)
  ix : ImAll H' 2 xs (tbs.map dTab)
  hR : H' R = some (.lst zs)
  hU : H' U = some (.lst (us.map V.str))
  hp : H' p = some (.lst (pl.map V.str))
  raw : RawAll ms H' zs ps
section
variable {b c t R U p : Addr} {xs : List V} {tbs : List (Str × List Str)} {pl : List Str} {zs : List V} {ps : List (Str × List Key)} {us : List Str} {H : Hp} {ms : List Addr} {H' H'' : Hp}
theorem PSt.draw (h : PSt b c t R U p xs tbs pl zs ps us H ms H') (B : Bag H'' b c) (k : Kp [b] H' H'') (hb : b ∈ ms) (n1 : t ≠ b) (n2 : R ≠ b) (n3 : U ≠ b) (n4 : p ≠ b) : PSt b c t R U p xs tbs pl zs ps us H ms H'' :=
  ⟨B, h.kp.trans k, k.at_ _ _ h.ht (by simpa using n1), ImAll.kp k h.ix, k.at_ _ _ h.hR (by simpa using n2), k.at_ _ _ h.hU (by simpa using n3), k.at_ _ _ h.hp (by simpa using n4), h.raw.kp (k.mono fun x hx => by rw [List.mem_singleton.mp hx]; exact hb)⟩
theorem PSt.fresh {q : Addr} {o : HO} (h : PSt b c t R U p xs tbs pl zs ps us H ms H') (hq : H' q = none) : PSt b c t R U p xs tbs pl zs ps us H (q :: ms) (upd H' q o) :=
  have k : Kp [] H' (upd H' q o) := Kp.new hq
  ⟨h.bag.keep0 k, h.kp.trans k.zero, k.at_ _ _ h.ht (fun z => nomatch z), ImAll.kp k h.ix, k.at_ _ _ h.hR (fun z => nomatch z), k.at_ _ _ h.hU (fun z => nomatch z), k.at_ _ _ h.hp (fun z => nomatch z), (h.raw.new hq).kp k.zero⟩
theorem PSt.mono {ms' : List Addr} (h : PSt b c t R U p xs tbs pl zs ps us H ms H') (m : ∀ x ∈ ms', x ∈ ms) : PSt b c t R U p xs tbs pl zs ps us H ms' H' :=
  ⟨h.bag, h.kp, h.ht, h.ix, h.hR, h.hU, h.hp, h.raw.mono m⟩
/-- another object of the def's own is changed -/
theorem PSt.own {q : Addr} {o o' : HO} (h : PSt b c t R U p xs tbs pl zs ps us H ms H') (hq : H' q = some o) (ho : ∀ xs, o ≠ .tup xs) (hf : H q = none) (hm : q ∈ ms) (n0 : q ≠ b) (n5 : q ≠ c) (n1 : t ≠ q) (n2 : R ≠ q) (n3 : U ≠ q) (n4 : p ≠ q) : PSt b c t R U p xs tbs pl zs ps us H ms (upd H' q o') :=
  have k : Kp [q] H' (upd H' q o') := Kp.set hq ho (by simp)
  ⟨h.bag.keep k (by simpa using Ne.symm n0) (by simpa using Ne.symm n5), h.kp.late hf, k.at_ _ _ h.ht (by simpa using n1), ImAll.kp k h.ix, k.at_ _ _ h.hR (by simpa using n2), k.at_ _ _ h.hU (by simpa using n3), k.at_ _ _ h.hp (by simpa using n4), h.raw.kp (k.mono fun x hx => by rw [List.mem_singleton.mp hx]; exact hm)⟩
/-- the list of used strings grows -/
theorem PSt.used {u : Str} (h : PSt b c t R U p xs tbs pl zs ps us H ms H') (hf : H U = none) (hm : U ∈ ms) (n0 : U ≠ b) (n5 : U ≠ c) (n1 : t ≠ U) (n2 : R ≠ U) (n4 : p ≠ U) : PSt b c t R U p xs tbs pl zs ps (us ++ [u]) H ms (upd H' U (.lst (us.map V.str ++ [.str u]))) :=
  have k : Kp [U] H' (upd H' U (.lst (us.map V.str ++ [.str u]))) := Kp.updL h.hU (by simp)
  ⟨h.bag.keep k (by simpa using Ne.symm n0) (by simpa using Ne.symm n5), h.kp.late hf, k.at_ _ _ h.ht (by simpa using n1), ImAll.kp k h.ix, k.at_ _ _ h.hR (by simpa using n2), by rw [upd_same, List.map_append]; rfl, k.at_ _ _ h.hp (by simpa using n4), h.raw.kp (k.mono fun x hx => by rw [List.mem_singleton.mp hx]; exact hm)⟩
end
theorem six : ∀ n : Nat, n < 6 → ∃ k : Nat, ([V.int 1, V.int 2, V.int 3, V.int 4, V.int 6, V.int 24] : List V)[n]? = some (.int k) ∧ 1 ≤ k ∧ k ≤ 24
  | 0, _ => ⟨1, rfl, by decide, by decide⟩
  | 1, _ => ⟨2, rfl, by decide, by decide⟩
  | 2, _ => ⟨3, rfl, by decide, by decide⟩
  | 3, _ => ⟨4, rfl, by decide, by decide⟩
  | 4, _ => ⟨6, rfl, by decide, by decide⟩
  | 5, _ => ⟨24, rfl, by decide, by decide⟩
  | n + 6, h => absurd h (by omega)
theorem fivep : ∀ n : Nat, n < 5 → ∃ k : Nat, ([V.int 1, V.int 1, V.int 2, V.int 3, V.int 100] : List V)[n]? = some (.int k) ∧ 1 ≤ k ∧ k ≤ 100
  | 0, _ => ⟨1, rfl, by decide, by decide⟩
  | 1, _ => ⟨1, rfl, by decide, by decide⟩
  | 2, _ => ⟨2, rfl, by decide, by decide⟩
  | 3, _ => ⟨3, rfl, by decide, by decide⟩
  | 4, _ => ⟨100, rfl, by decide, by decide⟩
  | n + 5, h => absurd h (by omega)
theorem last_at {ys : List V} {y : V} : atI (ys ++ [y]) (-1) = some y := by
  unfold atI ixN
  rw [if_neg (by omega), List.length_append, List.length_singleton, if_pos (by omega)]
  rw [show ((-1 : Int) + ((ys.length + 1 : Nat) : Int)).toNat = ys.length by omega]
  simp
/-- powers, one set -/
def putP (pw : List (Str × Int)) (s : Str) (n : Int) : List (Str × Int) := if s ∈ pw.map (·.1) then pw.map fun p => if p.1 = s then (p.1, n) else p else pw ++ [(s, n)]
theorem putP_kv (pw : List (Str × Int)) (s : Str) (n : Int) : putK (pwKv pw) (.inr s) (.int n) = pwKv (putP pw s n) := by
  unfold putK putP
  by_cases h : s ∈ pw.map (·.1)
  · rw [if_pos h, if_pos]
    · unfold pwKv
      rw [List.map_map, List.map_map]
      refine List.map_congr_left fun q _ => ?_
      by_cases e : q.1 = s
      · simp [e]
      · simp [e]
    · obtain ⟨q, hq, rfl⟩ := List.mem_map.mp h
      exact List.any_eq_true.mpr ⟨(.inr q.1, .int q.2), List.mem_map.mpr ⟨q, hq, rfl⟩, by simp⟩
  · rw [if_neg h, if_neg]
    · unfold pwKv; rw [List.map_append]; rfl
    · intro z
      obtain ⟨q, hq, e⟩ := List.any_eq_true.mp z
      obtain ⟨q0, h0, rfl⟩ := List.mem_map.mp hq
      exact h (List.mem_map.mpr ⟨q0, h0, by simpa using e⟩)
theorem putP_ok {ns : List Str} {pw : List (Str × Int)} {s : Str} {n : Int} (h : PwOk ns pw) (hs : s ∈ ns) (h1 : 1 ≤ n) (h2 : n ≤ 100) : PwOk ns (putP pw s n) := by
  unfold putP
  split
  · refine ⟨?_, fun q hq => ?_⟩
    · rw [List.map_map, show (List.map ((fun x => x.1) ∘ fun p : Str × Int => if p.1 = s then (p.1, n) else p) pw) = pw.map (·.1) from List.map_congr_left fun q _ => by
        show (if q.1 = s then (q.1, n) else q).1 = q.1
        split <;> rfl]
      exact h.1
    · obtain ⟨q0, h0, rfl⟩ := List.mem_map.mp hq
      have := h.2 q0 h0
      split
      · exact ⟨this.1, h1, h2⟩
      · exact this
  · rename_i hn
    refine ⟨?_, fun q hq => ?_⟩
    · rw [List.map_append]
      exact List.nodup_append.mpr ⟨h.1, List.nodup_cons.mpr ⟨List.not_mem_nil, List.nodup_nil⟩, fun a ha b hb => by
        rw [List.mem_singleton.mp hb]; rintro rfl; exact hn ha⟩
    · rcases List.mem_append.mp hq with hq | hq
      · exact h.2 q hq
      · rw [List.mem_singleton.mp hq]; exact ⟨hs, h1, h2⟩
theorem PwOk.mono {ns ms : List Str} {pw : List (Str × Int)} (h : PwOk ns pw) (m : ∀ s ∈ ns, s ∈ ms) : PwOk ms pw := ⟨h.1, fun q hq => let ⟨a, b⟩ := h.2 q hq; ⟨m _ a, b⟩⟩
def TxPs (ps : List (Str × List Key)) : Prop := ∀ r ∈ ps, ∀ s, Sum.inr s ∈ r.2 → s ∈ txs
def spPattern : Sp := fun vs H Q _ => ∃ (b c t : Addr) (xs : List V) (tbs : List (Str × List Str)) (most : Nat), vs = [.ref b, .ref t, .int most] ∧ Bag H b c ∧ H t = some (.lst xs) ∧ t ≠ b ∧ ImAll H 2 xs (tbs.map dTab) ∧ GoodTs tbs ∧ most ≤ 6 ∧
  ∀ (q R G W : Addr) ps g pw H', H' q = some (.tup [.ref R, .ref G, .ref W]) → RawAt [b] H' R G W ps g pw → TxPs ps → ps.length ≤ most → Bag H' b c → Kp [b] H H' → H R = none → H G = none → H W = none → Q (.ref q) H'
section
variable {P : Program} {w : World} {K : PySem.W.Frag} {mg : Str → Option Value} {base : Heap}
theorem ok_pattern (B : Bi mg) (D : Dfn K mg "_law_pattern" s__law_pattern ["_law_bag_here", "_law_tables_here", "_law_most"]) (G_pick : Has P w K mg base CX0 "_law_pick" ["_law_bag_here", "_law_many"] 1 spPick) (G_pool : Has P w K mg base CX0 "_law_pool" ["_law_bag_here"] 2 spPool) (G_value : Has P w K mg base CX0 "_law_value" ["_law_bag_here"] 2 spValue) :
    Has P w K mg base CX0 "_law_pattern" ["_law_bag_here", "_law_tables_here", "_law_most"] 3 spPattern := by
  refine D.has sc__law_pattern (fun vs H Q E h => ?_) (fun f cdv A outer s H vs Q E hr h => ?_)
  · obtain ⟨b, c, t, xs, tbs, most, rfl, _⟩ := h; rfl
  · obtain ⟨b, c, t, xs, tbs, most, rfl, BG, ht, tb, ix, g5, m6, k⟩ := h
    have hu := hu_of hr
    refine ⟨_, (pss_cons (ps_set (i := 3) sc__law_pattern.nd rfl (by first | exact Or.inl rfl | exact Or.inr rfl) (pe_has G_pool (hr.mono (by omega)) (pa_cons (pv 0) pa_nil)))
  (pss_cons (ps_set (i := 4) sc__law_pattern.nd rfl (by first | exact Or.inl rfl | exact Or.inr rfl) (pe_ix ix_list (pe_lst (pa_cons pe_int (pa_cons pe_int (pa_cons pe_int (pa_cons pe_int (pa_cons pe_int (pa_cons pe_int pa_nil))))))) (pe_has G_pick (hr.mono (by omega)) (pa_cons (pv 0) (pa_cons pe_int pa_nil))) (fun _ _ => rfl)))
  (pss_cons (ps_set (i := 5) sc__law_pattern.nd rfl (by first | exact Or.inl rfl | exact Or.inr rfl) (pe_lst pa_nil))
  (pss_cons (ps_set (i := 6) sc__law_pattern.nd rfl (by first | exact Or.inl rfl | exact Or.inr rfl) (pe_lst pa_nil))
  (pss_cons (ps_for PassesOwn.never rfl (pi_range1 rfl B.range (pa_cons (pe_has G_pick (hr.mono (by omega)) (pa_cons (pv 0) (pa_cons (pe_op op_add (pv 2) pe_int) pa_nil))) pa_nil)) (pg_name (i := 7) sc__law_pattern.nd rfl (by first | exact Or.inl rfl | exact Or.inr rfl))
  (pss_cons (ps_set (i := 8) sc__law_pattern.nd rfl (by first | exact Or.inl rfl | exact Or.inr rfl) (pe_ix ix_list (pv 1) (pe_has G_pick (hr.mono (by omega)) (pa_cons (pv 0) (pa_cons (pe_callB call_len (by rfl) B.len PySem.boot_len (pa_cons (pv 1) pa_nil)) pa_nil))) (fun _ _ => rfl)))
  (pss_cons (ps_set (i := 9) sc__law_pattern.nd rfl (by first | exact Or.inl rfl | exact Or.inr rfl) (pe_lst pa_nil))
  (pss_cons (ps_for PassesOwn.never rfl (pi_tup (pe_ix (r := rIxT K) ix_tup (pv 8) pe_int (fun _ _ => rfl))) (pg_name (i := 10) sc__law_pattern.nd rfl (by first | exact Or.inl rfl | exact Or.inr rfl))
  (pss_one (ps_if (pt_cmpR op_eq (pe_has G_pick (hr.mono (by omega)) (pa_cons (pv 0) (pa_cons pe_int pa_nil))) pe_int (nomark _))
  (pss_one (ps_expr (pe_bm PySem.F.plainAttrs_list PySem.F.slot_list_append PySem.F.type_list_append mt_append (pv 9) (pa_cons (pe_has G_value (hr.mono (by omega)) (pa_cons (pv 0) pa_nil)) pa_nil))))
  (pss_cons (ps_expr (pe_bm PySem.F.plainAttrs_list PySem.F.slot_list_append PySem.F.type_list_append mt_append (pv 9) (pa_cons (pe_ix ix_list (pv 3) (pe_has G_pick (hr.mono (by omega)) (pa_cons (pv 0) (pa_cons (pv 4) pa_nil))) (fun _ _ => rfl)) pa_nil)))
  (pss_one (ps_expr (pe_bm PySem.F.plainAttrs_list PySem.F.slot_list_append PySem.F.type_list_append mt_append (pv 6) (pa_cons (pe_ix ix_list (pv 9) (pe_un un_neg pe_int) (fun _ _ => rfl)) pa_nil))))))))
  (pss_one (ps_expr (pe_bm PySem.F.plainAttrs_list PySem.F.slot_list_append PySem.F.type_list_append mt_append (pv 5) (pa_cons (pe_tup (pa_cons (pe_ix ix_tup (pv 8) pe_int (fun _ _ => rfl)) (pa_cons (pv 9) pa_nil))) pa_nil))))))))
  (pss_cons (ps_set (i := 11) sc__law_pattern.nd rfl (by first | exact Or.inl rfl | exact Or.inr rfl) (pe_lst pa_nil))
  (pss_cons (ps_for PassesOwn.never rfl (pi_range1 rfl B.range (pa_cons (pe_has G_pick (hr.mono (by omega)) (pa_cons (pv 0) (pa_cons pe_int pa_nil))) pa_nil)) (pg_name (i := 7) sc__law_pattern.nd rfl (by first | exact Or.inl rfl | exact Or.inr rfl))
  (pss_one (ps_if (PW.pt (pw_or (pt_cmpR op_eq (pe_callB call_len (by rfl) B.len PySem.boot_len (pa_cons (pv 6) pa_nil)) pe_int (nomark _)) (pw_or1 (pt_cmpR op_eq (pe_has G_pick (hr.mono (by omega)) (pa_cons (pv 0) (pa_cons pe_int pa_nil))) pe_int (nomark _)))))
  (pss_one (ps_expr (pe_bm PySem.F.plainAttrs_list PySem.F.slot_list_append PySem.F.type_list_append mt_append (pv 11) (pa_cons (pe_has G_value (hr.mono (by omega)) (pa_cons (pv 0) pa_nil)) pa_nil))))
  (pss_one (ps_expr (pe_bm PySem.F.plainAttrs_list PySem.F.slot_list_append PySem.F.type_list_append mt_append (pv 11) (pa_cons (pe_ix ix_list (pv 6) (pe_has G_pick (hr.mono (by omega)) (pa_cons (pv 0) (pa_cons (pe_callB call_len (by rfl) B.len PySem.boot_len (pa_cons (pv 6) pa_nil)) pa_nil))) (fun _ _ => rfl)) pa_nil)))))))
  (pss_cons (ps_set (i := 12) sc__law_pattern.nd rfl (by first | exact Or.inl rfl | exact Or.inr rfl) pe_dnewK)
  (C8.pss_cut (ps_if (pt_cmpR op_gt (pe_callB call_len (by rfl) B.len PySem.boot_len (pa_cons (pv 6) pa_nil)) pe_int (nomark _))
  (pss_one (ps_for PassesOwn.never rfl (pi_range1 rfl B.range (pa_cons (pe_has G_pick (hr.mono (by omega)) (pa_cons (pv 0) (pa_cons pe_int pa_nil))) pa_nil)) (pg_name (i := 7) sc__law_pattern.nd rfl (by first | exact Or.inl rfl | exact Or.inr rfl))
  (pss_one (ps_dput hu (pv 12) (pe_ix ix_list (pv 6) (pe_has G_pick (hr.mono (by omega)) (pa_cons (pv 0) (pa_cons (pe_callB call_len (by rfl) B.len PySem.boot_len (pa_cons (pv 6) pa_nil)) pa_nil))) (fun _ _ => rfl)) (pe_ix ix_list (pe_lst (pa_cons pe_int (pa_cons pe_int (pa_cons pe_int (pa_cons pe_int (pa_cons pe_int pa_nil)))))) (pe_has G_pick (hr.mono (by omega)) (pa_cons (pv 0) (pa_cons pe_int pa_nil))) (fun _ _ => rfl)) rfl))))
  pss_nil)
  (pss_one (ps_ret (pe_tup (pa_cons (pv 5) (pa_cons (pv 11) (pa_cons (pv 12) pa_nil))))))))))))))), ?_⟩
    refine ⟨_, rfl, b, c, rfl, BG, fun p pl H1 hpl B1 k1 hpH hp1 => ?_⟩
    obtain ⟨pl29, plnd, pltx⟩ := hpl
    have ne_b : ∀ {x : Addr}, H x = none → x ≠ b := fun {x} h z => by
      obtain ⟨o, ho⟩ := BG.someB
      rw [← z, h] at ho; cases ho
    have ne_c : ∀ {x : Addr}, H x = none → x ≠ c := fun {x} h z => by
      obtain ⟨o, ho⟩ := BG.someC
      rw [← z, h] at ho; cases ho
    have ne_t : ∀ {x : Addr}, H x = none → t ≠ x := fun {x} h z => by
      rw [← z, ht] at h; cases h
    have free1 : ∀ {x : Addr}, H1 x = none → H x = none := fun {x} h => k1.freeB B1 h
    have pb := ne_b hpH
    refine ⟨by show 6 ≤ sizeLine; decide, fun q1 n1 => ?_⟩
    have k2 := k1.snoc (o := .lst [V.int 1, V.int 2, V.int 3, V.int 4, V.int 6, V.int 24]) n1
    refine ⟨_, rfl, b, c, 6, rfl, B1.keep0 (Kp.new n1), by decide, by decide, fun r H3 r0 r1 B3 k3 => ?_⟩
    have q1b := ne_b (free1 n1)
    obtain ⟨sp, hsp, s1, s24⟩ := six r.toNat (by omega)
    refine ⟨q1, _, r, .int sp, rfl, rfl, SqL.of (k3.at_ _ _ upd_same (by simpa using q1b)), atI_of r0 hsp, ?_⟩
    have k13 : Kp [b] H H3 := k2.trans k3
    have hp3 : H3 p = some (.lst (pl.map V.str)) := k3.at_ _ _ ((Kp.new (ms := []) n1).at_ _ _ hp1 (fun z => nomatch z)) (by simpa using pb)
    refine ⟨by show 0 ≤ sizeLine; decide, fun R hR => ⟨by show 0 ≤ sizeLine; decide, fun U hU => ?_⟩⟩
    have hRH : H R = none := k13.freeB B3 hR
    have UR : U ≠ R := fun z => by rw [z, upd_same] at hU; cases hU
    have hU3 : H3 U = none := by rw [upd_ne UR] at hU; exact hU
    have hUH : H U = none := k13.freeB B3 hU3
    have pR : p ≠ R := fun z => by rw [z, hR] at hp3; cases hp3
    have pU : p ≠ U := fun z => by rw [z, hU3] at hp3; cases hp3
    have P0 : PSt b c t R U p xs tbs pl [] [] [] H [b, R, U] (upd (upd H3 R (.lst [])) U (.lst [])) := by
      have kRU : Kp [] H3 (upd (upd H3 R (.lst [])) U (.lst [])) := (Kp.new hR).snoc hU
      exact ⟨B3.keep0 kRU, k13.trans kRU.zero, kRU.at_ _ _ (k13.at_ _ _ ht (by simpa using tb)) (fun z => nomatch z), ImAll.kp (k13.trans kRU.zero) ix, by rw [upd_ne (Ne.symm UR)]; exact upd_same, upd_same, kRU.at_ _ _ hp3 (fun z => nomatch z), .nil⟩
    refine ⟨_, rfl, _, rfl, _, _, rfl, rfl, b, c, (most : Int) + 1, rfl, P0.bag, by omega, by omega, fun n H4 n0 n1 B4 k4 => ?_⟩
    have Rb := ne_b hRH
    have Ub := ne_b hUH
    have P4 := P0.draw B4 k4 (by simp) tb Rb Ub pb
    have hsz : sizeLine = 16777216 := rfl
    refine ⟨n, rfl, by omega, by omega, ?_⟩
    refine for_range (lo := 0) (n := n.toNat) (fun i σ H' => (∃ o7 o8 o9 o10, σ = [some (.ref b), some (.ref t), some (.int most), some (.ref p), some (.int sp), some (.ref R), some (.ref U), o7, o8, o9, o10, none, none]) ∧ ∃ zs ps us, zs.length = i ∧ PSt b c t R U p xs tbs pl zs ps us H [b, R, U] H' ∧ (∀ r ∈ ps, IsNm r.1 ∧ 1 ≤ r.2.length ∧ r.2.length ≤ 4 ∧ ∀ k ∈ r.2, SymOk k) ∧ TxPs ps ∧ us.length ≤ 4 * i ∧ ∀ u ∈ us, ∃ r ∈ ps, Sum.inr u ∈ r.2) ⟨⟨_, _, _, _, rfl⟩, [], [], [], rfl, P4, (fun r h => nomatch h), (fun r h => nomatch h), Nat.zero_le _, (fun u h => nomatch h)⟩ ?_ ?_
    · rintro i σ H5 hi ⟨⟨o7, o8, o9, o10, rfl⟩, zs, ps, us, lz, P5, okp, txp, lu, uin⟩
      have i6 : i < 6 := by omega
      have lxt : xs.length = tbs.length := by rw [ix.len, List.length_map]
      have t5 := g5.2.2.2
      have t1 := g5.2.2.1
      refine ⟨_, rfl, _, rfl, _, rfl, _, _, rfl, .inl ⟨_, SqL.of P5.ht, rfl⟩, b, c, (xs.length : Nat), rfl, P5.bag, by omega, by omega, fun m H6 m0 m1 B6 k6 => ?_⟩
      have P6 := P5.draw B6 k6 (by simp) tb Rb Ub pb
      obtain ⟨u, hu1⟩ : ∃ u, xs[m.toNat]? = some u := ⟨_, List.getElem?_eq_getElem (by omega)⟩
      obtain ⟨ta, tf, tt, rfl, htt, e1, e2⟩ := tab_in P6.ix hu1
      have gt := g5.1 tt (List.mem_of_getElem? htt)
      refine ⟨t, _, m, _, rfl, rfl, SqL.of P6.ht, atI_of m0 hu1, ?_⟩
      refine ⟨by show 0 ≤ sizeLine; decide, fun S hS => ?_⟩
      have P7 := P6.fresh (o := .lst []) hS
      have hSH := P6.kp.freeB P6.bag hS
      have Sb := ne_b hSH
      have Sc := ne_c hSH
      have tS := ne_t hSH
      have RS : R ≠ S := fun z => by rw [← z, P6.hR] at hS; cases hS
      have US : U ≠ S := fun z => by rw [← z, P6.hU] at hS; cases hS
      have pS : p ≠ S := fun z => by rw [← z, P6.hp] at hS; cases hS
      have e1' : upd H6 S (.lst []) ta = some (.tup [.str tt.1, .ref tf]) := (Kp.new (ms := []) hS).tp _ _ e1
      have e2' : upd H6 S (.lst []) tf = some (.tup (tt.2.map V.str)) := (Kp.new (ms := []) hS).tp _ _ e2
      refine ⟨_, rfl, ta, _, 1, _, rfl, rfl, SqT.of e1', rfl, tf, rfl, ⟨_, .inl (.inl e2')⟩, ?_⟩
      refine for_it (walk_tup (xs := tt.2.map V.str)) (fun j σ H' => (∃ o10, σ = [some (.ref b), some (.ref t), some (.int most), some (.ref p), some (.int sp), some (.ref R), some (.ref U), some (.int (0 + (i : Int))), some (.ref ta), some (.ref S), o10, none, none]) ∧ (H' tf = some (.tup (tt.2.map V.str)) ∧ H' ta = some (.tup [.str tt.1, .ref tf])) ∧ ∃ ks us, H' S = some (.lst (ks.map kV)) ∧ ks.length = j ∧ (∀ k ∈ ks, SymOk k) ∧ (∀ s, Sum.inr s ∈ ks → s ∈ txs) ∧ PSt b c t R U p xs tbs pl zs ps us H [S, b, R, U] H' ∧ us.length ≤ 4 * i + j ∧ ∀ u ∈ us, (∃ r ∈ ps, Sum.inr u ∈ r.2) ∨ Sum.inr u ∈ ks) ⟨⟨_, rfl⟩, ⟨e2', e1'⟩, [], us, upd_same, rfl, (fun k h => nomatch h), (fun s h => nomatch h), P7, by omega, fun u h => .inl (uin u h)⟩ (fun j σ H' _ h => .inl (.inl h.2.1.1)) ?_ ?_
      · rintro j u σ H7 H8 hj ⟨⟨o10, rfl⟩, e7, ks, us', hS7, lk, okk, txk, P8, lu', uin'⟩ ⟨rfl, hu2⟩
        rw [List.length_map] at hj
        have j4 : j < 4 := by have := gt.2.2.2.2; omega
        refine ⟨_, rfl, b, c, 6, rfl, P8.bag, by decide, by decide, fun z H9 z0 z1 B9 k9 => ⟨rfl, _, rfl, ?_⟩⟩
        have P9 := P8.draw B9 k9 (by simp) tb Rb Ub pb
        have hS9 := k9.at_ _ _ hS7 (by simpa using Sb)
        have e9 := And.intro (k9.tp _ _ e7.1) (k9.tp _ _ e7.2)
        have lS : (ks.map kV).length < sizeLine := by rw [List.length_map, lk]; exact small1000 (by omega)
        refine ite2 (fun _ => ?_) (fun _ => ?_)
        · refine ⟨_, rfl, .inl ⟨rfl, _, SqL.of hS9⟩, _, rfl, b, c, rfl, P9.bag, fun v H10 hv B10 k10 => ?_⟩
          have P10 := P9.draw B10 k10 (by simp) tb Rb Ub pb
          have hS10 := k10.at_ _ _ hS9 (by simpa using Sb)
          have P11 := P10.own (o' := .lst (ks.map kV ++ [.int v])) hS10 (fun _ z => by cases z) hSH (by simp) Sb Sc tS RS US pS
          refine ⟨S, _, _, rfl, rfl, hS10, lS, ?_⟩
          refine ⟨⟨_, rfl⟩, ⟨(Kp.updL (ms := [S]) hS10 (by simp)).tp _ _ (k10.tp _ _ e9.1), (Kp.updL (ms := [S]) hS10 (by simp)).tp _ _ (k10.tp _ _ e9.2)⟩, ks ++ [.inl v], us', by rw [upd_same, List.map_append]; rfl, by simp [lk], fun k hk => ?_, fun s hs => ?_, P11, by omega, fun u hu => ?_⟩
          · rcases List.mem_append.mp hk with h | h
            · exact okk k h
            · rw [List.mem_singleton.mp h]; exact hv
          · rcases List.mem_append.mp hs with h | h
            · exact txk s h
            · cases List.mem_singleton.mp h
          · exact (uin' u hu).imp_right (List.mem_append_left _)
        · refine ⟨_, rfl, .inl ⟨rfl, _, SqL.of hS9⟩, _, rfl, _, rfl, _, rfl, b, c, (sp : Int), rfl, P9.bag, by omega, by omega, fun v H10 v0 v1 B10 k10 => ?_⟩
          have P10 := P9.draw B10 k10 (by simp) tb Rb Ub pb
          have hS10 := k10.at_ _ _ hS9 (by simpa using Sb)
          obtain ⟨w1, hw1⟩ : ∃ w1, pl[v.toNat]? = some w1 := ⟨_, List.getElem?_eq_getElem (by omega)⟩
          have w1t := pltx w1 (List.mem_of_getElem? hw1)
          refine ⟨p, _, v, .str w1, rfl, rfl, SqL.of P10.hp, atI_of v0 (by rw [List.getElem?_map, hw1]; rfl), ?_⟩
          have P11 := P10.own (o' := .lst (ks.map kV ++ [.str w1])) hS10 (fun _ z => by cases z) hSH (by simp) Sb Sc tS RS US pS
          refine ⟨S, _, _, rfl, rfl, hS10, lS, ?_⟩
          refine ⟨_, rfl, .inl ⟨rfl, _, SqL.of P11.hU⟩, _, rfl, _, rfl, ?_⟩
          refine ⟨S, _, _, _, rfl, rfl, SqL.of upd_same, last_at, ?_⟩
          refine ⟨U, _, _, rfl, rfl, P11.hU, by rw [List.length_map]; exact small1000 (by omega), ?_⟩
          have P12 := P11.used (u := w1) hUH (by simp) Ub (ne_c hUH) (ne_t hUH) (Ne.symm UR) pU
          refine ⟨⟨_, rfl⟩, ⟨(Kp.updL (ms := [U]) P11.hU (by simp)).tp _ _ ((Kp.updL (ms := [S]) hS10 (by simp)).tp _ _ (k10.tp _ _ e9.1)), (Kp.updL (ms := [U]) P11.hU (by simp)).tp _ _ ((Kp.updL (ms := [S]) hS10 (by simp)).tp _ _ (k10.tp _ _ e9.2))⟩, ks ++ [.inr w1], us' ++ [w1], by rw [upd_ne (Ne.symm US), upd_same, List.map_append]; rfl, by simp [lk], fun k hk => ?_, fun s hs => ?_, P12, by simp; omega, fun u hu => ?_⟩
          · rcases List.mem_append.mp hk with h | h
            · exact okk k h
            · rw [List.mem_singleton.mp h]; exact Nat.le_trans (txs_short w1 w1t) (by decide)
          · rcases List.mem_append.mp hs with h | h
            · exact txk s h
            · cases List.mem_singleton.mp h; exact w1t
          · rcases List.mem_append.mp hu with h | h
            · exact (uin' u h).imp_right (List.mem_append_left _)
            · rw [List.mem_singleton.mp h]; exact .inr (List.mem_append_right _ List.mem_cons_self)
      · rintro σ H7 ⟨⟨o10, rfl⟩, e7, ks, us', hS7, lk, okk, txk, P8, lu', uin'⟩
        rw [List.length_map] at lk lu'
        refine ⟨_, rfl, .inl ⟨rfl, _, SqL.of P8.hR⟩, _, rfl, ta, _, 0, _, rfl, rfl, SqT.of e7.2, rfl, _, rfl, by show 2 ≤ sizeLine; decide, fun T hT => ?_⟩
        have P9 := P8.fresh (o := .tup [.str tt.1, .ref S]) hT
        have hS8 : upd H7 T (.tup [.str tt.1, .ref S]) S = some (.lst (ks.map kV)) := (Kp.new (ms := []) hT).at_ _ _ hS7 (fun z => nomatch z)
        have kR : Kp [R] (upd H7 T (.tup [.str tt.1, .ref S])) (upd (upd H7 T (.tup [.str tt.1, .ref S])) R (.lst (zs ++ [.ref T]))) := Kp.updL P9.hR (by simp)
        refine ⟨R, _, _, rfl, rfl, P9.hR, by rw [lz]; exact small1000 (by omega), ?_⟩
        have hT9 := kR.tp _ _ (upd_same (H := H7) (a := T))
        have hS9 := kR.at_ _ _ hS8 (by simpa using Ne.symm RS)
        have P10 : PSt b c t R U p xs tbs pl (zs ++ [.ref T]) (ps ++ [(tt.1, ks)]) us' H [b, R, U] (upd (upd H7 T (.tup [.str tt.1, .ref S])) R (.lst (zs ++ [.ref T]))) :=
          ⟨P9.bag.keep kR (by simpa using Ne.symm Rb) (by simpa using Ne.symm (ne_c hRH)), P9.kp.late hRH, kR.at_ _ _ P9.ht (by simpa using ne_t hRH), ImAll.kp kR P9.ix, upd_same, kR.at_ _ _ P9.hU (by simpa using UR), kR.at_ _ _ P9.hp (by simpa using pR), ((P9.raw.mono (ms' := [b, R, U]) (by simp)).kp (kR.mono (by simp))).snoc (r := (tt.1, ks)) hT9 hS9 (by simp [Sb, Ne.symm RS, Ne.symm US])⟩
        refine ⟨⟨_, _, _, _, rfl⟩, _, _, us', by simp [lz], P10, fun r hr => ?_, fun r hr => ?_, ?_, fun u hu => ?_⟩
        · rcases List.mem_append.mp hr with h | h
          · exact okp r h
          · rw [List.mem_singleton.mp h]
            exact ⟨gt.1, by show 1 ≤ ks.length; have := gt.2.2.2.1; omega, by show ks.length ≤ 4; have := gt.2.2.2.2; omega, okk⟩
        · rcases List.mem_append.mp hr with h | h
          · exact txp r h
          · rw [List.mem_singleton.mp h]; exact txk
        · have := gt.2.2.2.2; omega
        · rcases uin' u hu with ⟨r, hr, h⟩ | h
          · exact ⟨r, List.mem_append_left _ hr, h⟩
          · exact ⟨(tt.1, ks), List.mem_append_right _ List.mem_cons_self, h⟩
    · rintro σ H5 ⟨⟨o7, o8, o9, o10, rfl⟩, zs, ps, us, lz, P5, okp, txp, lu, uin⟩
      have el := P5.raw.len
      have okP : PsOk ps := ⟨by omega, okp⟩
      have usn : ∀ u ∈ us, u ∈ namesP ps := fun u hu => let ⟨r, hr, h⟩ := uin u hu; foldR_in ps [] u r hr h
      have lu24 : us.length ≤ 24 := by omega
      refine ⟨by show 0 ≤ sizeLine; decide, fun G hG => ?_⟩
      have P6 := P5.fresh (o := .lst []) hG
      have hGH := P5.kp.freeB P5.bag hG
      have Gb := ne_b hGH
      have Gc := ne_c hGH
      have RG : R ≠ G := fun z => by rw [← z, P5.hR] at hG; cases hG
      have UG : U ≠ G := fun z => by rw [← z, P5.hU] at hG; cases hG
      have pG : p ≠ G := fun z => by rw [← z, P5.hp] at hG; cases hG
      refine ⟨_, rfl, b, c, 4, rfl, P6.bag, by decide, by decide, fun n2 H6 n20 n21 B6 k6 => ⟨n2, rfl, by omega, by omega, ?_⟩⟩
      have P7 := P6.draw B6 k6 (by simp) tb Rb Ub pb
      have hG6 := k6.at_ _ _ upd_same (by simpa using Gb)
      refine for_range (lo := 0) (n := n2.toNat) (fun i σ H' => (∃ o7, σ = [some (.ref b), some (.ref t), some (.int most), some (.ref p), some (.int sp), some (.ref R), some (.ref U), o7, o8, o9, o10, some (.ref G), none]) ∧ ∃ g, H' G = some (.lst (g.map kV)) ∧ g.length = i ∧ (∀ k ∈ g, SymOk k) ∧ (∀ s, Sum.inr s ∈ g → s ∈ us) ∧ PSt b c t R U p xs tbs pl zs ps us H [G, b, R, U] H') ⟨⟨_, rfl⟩, [], hG6, rfl, (fun k h => nomatch h), (fun s h => nomatch h), P7⟩ ?_ ?_
      · rintro i σ H7 hi ⟨⟨o7, rfl⟩, g, hG7, lg, okg, gin, P8⟩
        have i3 : i < 3 := by omega
        have lG : (g.map kV).length < sizeLine := by rw [List.length_map, lg]; exact small1000 (by omega)
        have addv : ∀ {H8 : Hp}, PSt b c t R U p xs tbs pl zs ps us H [G, b, R, U] H8 → H8 G = some (.lst (g.map kV)) → ∀ (y : Key), SymOk y → (∀ s, y = .inr s → s ∈ us) → ∃ g' : List Key, (upd H8 G (.lst (g.map kV ++ [kV y]))) G = some (.lst (g'.map kV)) ∧ g'.length = i + 1 ∧ (∀ k ∈ g', SymOk k) ∧ (∀ s, Sum.inr s ∈ g' → s ∈ us) ∧ PSt b c t R U p xs tbs pl zs ps us H [G, b, R, U] (upd H8 G (.lst (g.map kV ++ [kV y]))) := fun {H8} P h8 y oy hy => by
          refine ⟨g ++ [y], by rw [upd_same, List.map_append]; rfl, by simp [lg], fun k hk => ?_, fun s hs => ?_, P.own h8 (fun _ z => by cases z) hGH (by simp) Gb Gc (ne_t hGH) RG UG pG⟩
          · rcases List.mem_append.mp hk with h | h
            · exact okg k h
            · rw [List.mem_singleton.mp h]; exact oy
          · rcases List.mem_append.mp hs with h | h
            · exact gin s h
            · exact hy s (List.mem_singleton.mp h).symm
        refine ⟨_, rfl, _, _, rfl, .inl ⟨_, SqL.of P8.hU, rfl⟩, rfl, _, rfl, ?_⟩
        refine ite2 (fun _ => ?_) (fun hne => ?_)
        · refine ⟨_, rfl, .inl ⟨rfl, _, SqL.of hG7⟩, _, rfl, b, c, rfl, P8.bag, fun v H10 hv B10 k10 => ?_⟩
          have P10 := P8.draw B10 k10 (by simp) tb Rb Ub pb
          have hG10 := k10.at_ _ _ hG7 (by simpa using Gb)
          exact ⟨G, _, _, rfl, rfl, hG10, lG, ⟨_, rfl⟩, addv P10 hG10 (.inl v) hv (fun s e => by cases e)⟩
        · have hne : us.length ≠ 0 := fun z => hne (by rw [List.length_map, z]; simp)
          refine ⟨_, rfl, b, c, 6, rfl, P8.bag, by decide, by decide, fun z H9 z0 z1 B9 k9 => ⟨rfl, _, rfl, ?_⟩⟩
          have P9 := P8.draw B9 k9 (by simp) tb Rb Ub pb
          have hG9 := k9.at_ _ _ hG7 (by simpa using Gb)
          refine ite2 (fun _ => ?_) (fun _ => ?_)
          · refine ⟨_, rfl, .inl ⟨rfl, _, SqL.of hG9⟩, _, rfl, b, c, rfl, P9.bag, fun v H10 hv B10 k10 => ?_⟩
            have P10 := P9.draw B10 k10 (by simp) tb Rb Ub pb
            have hG10 := k10.at_ _ _ hG9 (by simpa using Gb)
            exact ⟨G, _, _, rfl, rfl, hG10, lG, ⟨_, rfl⟩, addv P10 hG10 (.inl v) hv (fun s e => by cases e)⟩
          · refine ⟨_, rfl, .inl ⟨rfl, _, SqL.of hG9⟩, _, rfl, _, rfl, _, rfl, _, _, rfl, .inl ⟨_, SqL.of P9.hU, rfl⟩, b, c, ((us.map V.str).length : Nat), rfl, P9.bag, by rw [List.length_map]; omega, by rw [List.length_map]; omega, fun v H10 v0 v1 B10 k10 => ?_⟩
            rw [List.length_map] at v1
            have P10 := P9.draw B10 k10 (by simp) tb Rb Ub pb
            have hG10 := k10.at_ _ _ hG9 (by simpa using Gb)
            obtain ⟨w1, hw1⟩ : ∃ w1, us[v.toNat]? = some w1 := ⟨_, List.getElem?_eq_getElem (by omega)⟩
            have w1u := List.mem_of_getElem? hw1
            refine ⟨U, _, v, .str w1, rfl, rfl, SqL.of P10.hU, atI_of v0 (by rw [List.getElem?_map, hw1]; rfl), ?_⟩
            refine ⟨G, _, _, rfl, rfl, hG10, lG, ⟨_, rfl⟩, addv P10 hG10 (.inr w1) ?_ (fun s e => by cases e; exact w1u)⟩
            obtain ⟨r, hr, h⟩ := uin w1 w1u
            exact (okp r hr).2.2.2 _ h
      · rintro σ H7 ⟨⟨o7, rfl⟩, g, hG7, lg, okg, gin, P8⟩
        have lg3 : g.length ≤ 3 := by omega
        intro W hW
        have hWH := P8.kp.freeB P8.bag hW
        have Wb := ne_b hWH
        have Wc := ne_c hWH
        have RW : R ≠ W := fun z => by rw [← z, P8.hR] at hW; cases hW
        have UW : U ≠ W := fun z => by rw [← z, P8.hU] at hW; cases hW
        have pW : p ≠ W := fun z => by rw [← z, P8.hp] at hW; cases hW
        have GW : G ≠ W := fun z => by rw [← z, hG7] at hW; cases hW
        have P9 := P8.fresh (o := .dK []) hW
        have hG9 : upd H7 W (.dK []) G = some (.lst (g.map kV)) := (Kp.new (ms := []) hW).at_ _ _ hG7 (fun z => nomatch z)
        refine ⟨fun σ H' => (∃ o7, σ = [some (.ref b), some (.ref t), some (.int most), some (.ref p), some (.int sp), some (.ref R), some (.ref U), o7, o8, o9, o10, some (.ref G), some (.ref W)]) ∧ ∃ pw, H' W = some (.dK (pwKv pw)) ∧ PwOk us pw ∧ H' G = some (.lst (g.map kV)) ∧ PSt b c t R U p xs tbs pl zs ps us H [W, G, b, R, U] H', ?_, ?_⟩
        · refine ⟨_, rfl, _, _, rfl, .inl ⟨_, SqL.of P9.hU, rfl⟩, _, _, rfl, rfl, _, rfl, ?_⟩
          refine ite2 (fun hpos => ?_) (fun _ => ?_)
          · have hpos : 0 < us.length := by
              have := of_decide_eq_true hpos
              rw [List.length_map] at this
              omega
            refine ⟨_, rfl, b, c, 4, rfl, P9.bag, by decide, by decide, fun n3 H8 n30 n31 B8 k8 => ⟨n3, rfl, by omega, by omega, ?_⟩⟩
            have P10 := P9.draw B8 k8 (by simp) tb Rb Ub pb
            refine for_range (lo := 0) (n := n3.toNat) (fun i σ H' => (∃ o7, σ = [some (.ref b), some (.ref t), some (.int most), some (.ref p), some (.int sp), some (.ref R), some (.ref U), o7, o8, o9, o10, some (.ref G), some (.ref W)]) ∧ ∃ pw, pw.length ≤ i ∧ H' W = some (.dK (pwKv pw)) ∧ PwOk us pw ∧ H' G = some (.lst (g.map kV)) ∧ PSt b c t R U p xs tbs pl zs ps us H [W, G, b, R, U] H') ⟨⟨_, rfl⟩, [], Nat.zero_le _, k8.at_ _ _ upd_same (by simpa using Wb), ⟨List.nodup_nil, (fun q h => nomatch h)⟩, k8.at_ _ _ hG9 (by simpa using Gb), P10⟩ ?_ ?_
            · rintro i σ H9 hi ⟨⟨o7, rfl⟩, pw, lpw, hW9, okw, hG10, P11⟩
              refine ⟨by show 5 ≤ sizeLine; decide, fun q hq => ?_⟩
              have P12 := P11.fresh (o := .lst [V.int 1, V.int 1, V.int 2, V.int 3, V.int 100]) hq
              have qb := ne_b (P11.kp.freeB P11.bag hq)
              refine ⟨_, rfl, b, c, 5, rfl, P12.bag, by decide, by decide, fun r2 H11 r20 r21 B11 k11 => ?_⟩
              obtain ⟨kk, hk, kk1, kk100⟩ := fivep r2.toNat (by omega)
              refine ⟨q, _, r2, .int kk, rfl, rfl, SqL.of (k11.at_ _ _ upd_same (by simpa using qb)), atI_of r20 hk, ?_⟩
              have P13 := (P12.draw B11 k11 (by simp) tb Rb Ub pb).mono (ms' := [W, G, b, R, U]) (by simp)
              have hW11 := k11.at_ _ _ ((Kp.new (ms := []) (o := .lst [V.int 1, V.int 1, V.int 2, V.int 3, V.int 100]) hq).at_ _ _ hW9 (fun z => nomatch z)) (by simpa using Wb)
              have hG11 := k11.at_ _ _ ((Kp.new (ms := []) (o := .lst [V.int 1, V.int 1, V.int 2, V.int 3, V.int 100]) hq).at_ _ _ hG10 (fun z => nomatch z)) (by simpa using Gb)
              refine ⟨_, rfl, _, rfl, _, rfl, _, rfl, _, _, rfl, .inl ⟨_, SqL.of P13.hU, rfl⟩, b, c, ((us.map V.str).length : Nat), rfl, P13.bag, by rw [List.length_map]; omega, by rw [List.length_map]; omega, fun v H12 v0 v1 B12 k12 => ?_⟩
              rw [List.length_map] at v1
              have P14 := P13.draw B12 k12 (by simp) tb Rb Ub pb
              have hW12 := k12.at_ _ _ hW11 (by simpa using Wb)
              have hG12 := k12.at_ _ _ hG11 (by simpa using Gb)
              obtain ⟨w1, hw1⟩ : ∃ w1, us[v.toNat]? = some w1 := ⟨_, List.getElem?_eq_getElem (by omega)⟩
              have w1u := List.mem_of_getElem? hw1
              refine ⟨U, _, v, .str w1, rfl, rfl, SqL.of P14.hU, atI_of v0 (by rw [List.getElem?_map, hw1]; rfl), ?_⟩
              refine ⟨W, _, rfl, .inl ⟨_, .inr w1, hW12, rfl, by rw [show (pwKv pw).length = pw.length from List.length_map ..]; exact small1000 (by omega), rfl⟩, ?_⟩
              rw [putP_kv]
              have kW : Kp [W] H12 (upd H12 W (.dK (pwKv (putP pw w1 kk)))) := Kp.set hW12 (fun _ z => by cases z) (by simp)
              refine ⟨⟨_, rfl⟩, putP pw w1 kk, ?_, upd_same, putP_ok okw w1u (by omega) (by omega), kW.at_ _ _ hG12 (by simpa using GW), P14.own hW12 (fun _ z => by cases z) hWH (by simp) Wb Wc (ne_t hWH) RW UW pW⟩
              unfold putP
              split
              · rw [List.length_map]; omega
              · rw [List.length_append, List.length_singleton]; omega
            · rintro σ H9 ⟨⟨o7, rfl⟩, pw, lpw, hW9, okw, hG10, P11⟩
              exact ⟨⟨_, rfl⟩, pw, hW9, okw, hG10, P11⟩
          · exact ⟨⟨_, rfl⟩, [], upd_same, ⟨List.nodup_nil, (fun q h => nomatch h)⟩, hG9, P9⟩
        · rintro σ H8 ⟨⟨o7, rfl⟩, pw, hW8, okw, hG8, P10⟩
          refine ⟨_, rfl, _, rfl, _, rfl, by show 3 ≤ sizeLine; decide, fun q hq => ?_⟩
          have P11 := P10.fresh (o := .tup [.ref R, .ref G, .ref W]) hq
          have kq : Kp [] H8 (upd H8 q (.tup [.ref R, .ref G, .ref W])) := Kp.new hq
          exact k q R G W ps g pw _ upd_same ⟨⟨zs, P11.hR, P11.raw.mono (by simp)⟩, by simpa using Rb, kq.at_ _ _ hG8 (fun z => nomatch z), by simpa using Gb, kq.at_ _ _ hW8 (fun z => nomatch z), by simpa using Wb, okP, ⟨lg3, okg, fun s hs => usn s (gin s hs)⟩, okw.mono usn⟩ txp (by omega) P11.bag P11.kp hRH hGH hWH
end
end Fm

namespace Fm
open PySem PySem.Spec PyProof.Rows L2
/-! ### patterns made of raw rows -/
theorem raw_prow {ms : List Addr} {H : Hp} : ∀ {xs : List V} {ps : List (Str × List Key)}, RawAll ms H xs ps → (∀ r ∈ ps, IsNm r.1 ∧ 1 ≤ r.2.length ∧ r.2.length ≤ 4 ∧ ∀ k ∈ r.2, SymOk k) → ∃ es, DtAll (fun _ => True) false H 2 xs es ∧ PRowsD es ps
  | _, _, .nil, _ => ⟨[], .nil, .nil⟩
  | _, _, .cons (r := r) a b c d, h => by
    obtain ⟨es, h1, h2⟩ := raw_prow d fun x hx => h x (List.mem_cons_of_mem _ hx)
    obtain ⟨n, l1, l4, so⟩ := h r List.mem_cons_self
    have ax : DtAll (fun _ => True) false H 0 (r.2.map kV) (r.2.map keyD) := dt_syms so
    have lx : (r.2.map kV).length ≤ 1000000 := by rw [List.length_map]; omega
    exact ⟨.tuple [.str r.1, .list (r.2.map keyD)] :: es, .cons (.tup a ⟨by show 2 ≤ 1000000; decide, trivial⟩ (.cons (.str _ (by have := n.2.1; omega)) (.cons (.lst (.inl b) ⟨lx, trivial⟩ ax) .nil))) h1, .cons ⟨_, rfl, n, .inl rfl, l1, l4, so⟩ h2⟩
theorem RawAt.re {ms : List Addr} {H H' : Hp} {R G W W' : Addr} {ps : List (Str × List Key)} {g : List Key} {pw : List (Str × Int)} (h : RawAt ms H R G W ps g pw) (k : Kp ms H H') (hW : H' W' = some (.dK [])) (nW : W' ∉ ms) : RawAt ms H' R G W' ps g [] := by
  obtain ⟨⟨xs, hR, RX⟩, Rb, hG, Gb, _, _, okp, okg, _⟩ := h.kp k
  exact ⟨⟨xs, hR, RX⟩, Rb, hG, Gb, hW, nW, okp, okg, List.nodup_nil, fun _ h => nomatch h⟩
theorem raw_dt {ms : List Addr} {H : Hp} {R G W : Addr} {ps : List (Str × List Key)} {g : List Key} {pw : List (Str × Int)} (h : RawAt ms H R G W ps g pw) : ∃ d es, Dt (fun _ => True) false H 3 (.ref R) d ∧ RowD d es ∧ PRowsD es ps := by
  obtain ⟨⟨xs, hR, RX⟩, Rb, hG, Gb, _, _, okp, okg, _⟩ := h
  obtain ⟨es, d1, d2⟩ := raw_prow RX okp.2
  exact ⟨_, es, .lst (.inl hR) ⟨by rw [RX.len]; have := okp.1; omega, trivial⟩ d1, .inl rfl, d2⟩
theorem pat_mk {C : Addr} {ms : List Addr} {H : Hp} {R G W p dx : Addr} {ps : List (Str × List Key)} {g : List Key} {pw : List (Str × Int)} {Q : Hp → Prop} (h : RawAt ms H R G W ps g pw) (np : H p = none) (ndx : H dx = none) (ne : dx ≠ p) (k : ∀ H', Kp [] H H' → PatAt C H' p (canP ps g pw) → Q H') :
    spPatI C [.ref p, .ref R, .ref G, .ref W] (upd (upd H dx (.own p)) p (.ins C dx [])) (fun v H2 => v = .non ∧ Q H2) E0 := by
  have k0 : Kp [] H (upd (upd H dx (.own p)) p (.ins C dx [])) := (Kp.new ndx).snoc (by rw [upd_ne (Ne.symm ne)]; exact np)
  obtain ⟨d, es, hd, rd, d2⟩ := raw_dt h
  obtain ⟨⟨xs, hR, RX⟩, Rb, hG, Gb, hW, _, okp, okg, okw⟩ := h
  have ax : DtAll (fun _ => True) false H 0 (g.map kV) (g.map keyD) := dt_syms okg.2.1
  have lg : (g.map kV).length ≤ 1000000 := by rw [List.length_map]; have := okg.1; omega
  have hdg : Dt (fun _ => True) false H 1 (.ref G) (.list (g.map keyD)) := .lst (.inl hG) ⟨lg, trivial⟩ ax
  refine ⟨p, dx, W, _, _, _, _, _, _, .ref R, .ref G, d, _, es, ps, g, pw, rfl, upd_same, hd.keep k0, rd, by rw [d2.len]; exact okp.1, d2, hdg.keep k0, ⟨.inl rfl, okg⟩, k0.at_ _ _ hW (fun z => nomatch z), okw, fun H' k1 pa => ⟨rfl, k H' ⟨fun a o e _ => ?_, fun a xs e => k1.tp _ _ (k0.tp _ _ e)⟩ pa⟩⟩
  exact k1.at_ a o (k0.at_ a o e (fun z => nomatch z)) (fun z => by
    have z : a = p := by simpa using z
    rw [z, np] at e; cases e)
/-- what _law_due tells, part by part -/
theorem due_parts {H : Hp} {v : V} {T : Pat} (h : Im H 4 v (dPat T)) : ∃ a A G w3 xs, v = .ref a ∧ H a = some (.tup [.ref A, .ref G, w3]) ∧ H A = some (.tup xs) ∧ ImAll H 2 xs (T.rows.map dPR) ∧ H G = some (.tup (T.grp.map kV)) ∧ Im H 3 w3 (.tuple (T.pws.map dPow)) := by
  cases h with
  | tup r l a =>
    cases a with
    | cons a1 a =>
      cases a with
      | cons a2 a =>
        cases a with
        | cons a3 a =>
          cases a
          cases a1 with
          | tup r1 l1 b1 =>
            cases a2 with
            | tup r2 l2 b2 =>
              have := b2.syms
              subst this
              exact ⟨_, _, _, _, _, rfl, r, r1, b1, r2, a3⟩
theorem canP_sz {ps : List (Str × List Key)} {g : List Key} {pw : List (Str × Int)} (ok : PsOk ps) (hg : g.length ≤ 3) : (canP ps g pw).rows.length ≤ 6 ∧ (∀ r ∈ (canP ps g pw).rows, r.2.length ≤ 4) ∧ (canP ps g pw).grp.length ≤ 3 := by
  refine ⟨by show (ps.map _).length ≤ 6; rw [List.length_map]; exact ok.1, fun r hr => ?_, by show (g.map _).length ≤ 3; rw [List.length_map]; exact hg⟩
  obtain ⟨r0, h0, rfl⟩ := List.mem_map.mp (show r ∈ ps.map (renR (namesP ps)) from hr)
  show (r0.2.map _).length ≤ 4
  rw [List.length_map]
  exact (ok.2 r0 h0).2.2.1
def spLaw (K : PySem.W.Frag) : Sp := fun vs H Q _ => ∃ (a : Addr) (ns : List Int), vs = [V.ref a] ∧ SqL K H a (ns.map V.int) ∧ ∀ H', Q (.bl true) H'
end Fm

namespace Fm
open PySem PySem.Spec PyProof.Rows L2
def PatG (T : Pat) : Prop := T.rows.length ≤ 6 ∧ (∀ r ∈ T.rows, r.2.length ≤ 4) ∧ T.grp.length ≤ 3 ∧ T.pws.length ≤ 24 ∧ (∀ p ∈ T.pws, (∃ r ∈ T.rows, Sum.inr p.1 ∈ r.2) ∧ 1 ≤ p.2 ∧ p.2 ≤ 100) ∧ ∀ s, Sum.inr s ∈ T.grp → ∃ r ∈ T.rows, Sum.inr s ∈ r.2
/-! ### patterns that are made are good for ways -/
theorem foldN_backW : ∀ (ks : List Key) (ns : List Str) (s : Str), s ∈ ks.foldl addN ns → s ∈ ns ∨ Sum.inr s ∈ ks
  | [], _, _, h => .inl h
  | k :: ks, ns, s, h => by
    rcases foldN_backW ks _ s h with h | h
    · cases k with
      | inl _ => exact .inl h
      | inr t =>
        rw [addN_inr] at h
        split at h
        · exact .inl h
        · rcases List.mem_append.mp h with h | h
          · exact .inl h
          · rw [List.mem_singleton.mp h]; exact .inr List.mem_cons_self
    · exact .inr (List.mem_cons_of_mem _ h)
theorem foldR_backW : ∀ (ps : List (Str × List Key)) (ns : List Str) (s : Str), s ∈ ps.foldl addR ns → s ∈ ns ∨ ∃ r ∈ ps, Sum.inr s ∈ r.2
  | [], _, _, h => .inl h
  | r :: ps, ns, s, h => by
    rcases foldR_backW ps _ s h with h | ⟨x, hx, h⟩
    · rcases foldN_backW r.2 ns s h with h | h
      · exact .inl h
      · exact .inr ⟨r, List.mem_cons_self, h⟩
    · exact .inr ⟨x, List.mem_cons_of_mem _ hx, h⟩
theorem names_back {ps : List (Str × List Key)} {s : Str} (h : s ∈ namesP ps) : ∃ r ∈ ps, Sum.inr s ∈ r.2 := by
  rcases foldR_backW ps [] s h with h | h
  · cases h
  · exact h
theorem ren_row {ps : List (Str × List Key)} {s : Str} (h : s ∈ namesP ps) : ∃ r ∈ ps.map (renR (namesP ps)), ren (namesP ps) (.inr s) ∈ r.2 := by
  obtain ⟨r, hr, hs⟩ := names_back h
  exact ⟨renR (namesP ps) r, List.mem_map.mpr ⟨r, hr, rfl⟩, List.mem_map.mpr ⟨.inr s, hs, rfl⟩⟩
theorem patG_can {ps : List (Str × List Key)} {g : List Key} {pw : List (Str × Int)} (ok : PsOk ps) (hg : g.length ≤ 3) (gin : ∀ s, Sum.inr s ∈ g → s ∈ namesP ps) (okw : PwOk (namesP ps) pw) : PatG (canP ps g pw) := by
  obtain ⟨z1, z2, z3⟩ := canP_sz (g := g) (pw := pw) ok hg
  refine ⟨z1, z2, z3, ?_, fun p hp => ?_, fun s hs => ?_⟩
  · show (srt _).length ≤ 24
    rw [srt_len, List.length_map]
    have := okw.len
    have := namesP_len ok
    omega
  · obtain ⟨q, hq, rfl⟩ := List.mem_map.mp (srt_mem.mp (show p ∈ srt (pw.map (nmPw (namesP ps))) from hp))
    obtain ⟨h1, h2, h3⟩ := okw.2 q hq
    obtain ⟨r, hr, hs⟩ := ren_row h1
    refine ⟨⟨r, hr, ?_⟩, h2, h3⟩
    rw [ren_inr, if_pos h1] at hs
    exact hs
  · obtain ⟨k, hk, e⟩ := List.mem_map.mp (show Sum.inr s ∈ g.map (ren (namesP ps)) from hs)
    cases k with
    | inl i => cases e
    | inr u =>
      obtain ⟨r, hr, hs'⟩ := ren_row (gin u hk)
      exact ⟨r, hr, by rw [← e]; exact hs'⟩
end Fm

namespace Fm
open PySem PySem.Spec PyProof.Rows L2
/-! ### ways as functions of the unknowns: neither the order of the rows nor that of binding counts -/
theorem look_last {m : List (Str × Key)} {s : Str} {t : Key} (h : look m s = none) : look (m ++ [(s, t)]) s = some t := by
  unfold look at h ⊢
  rw [List.find?_append]
  cases e : m.find? fun p => decide (p.1 = s) with
  | none => simp
  | some p => rw [e] at h; cases h
abbrev Fn := Str → Option Key
def upF (φ : Fn) (s : Str) (t : Key) : Fn := fun u => if u = s then some t else φ u
def stepF (φ : Fn) (p : Key × Key) : Option Fn :=
  match p.1 with
  | .inl i => if Sum.inl i = p.2 then some φ else none
  | .inr s => match φ s with
    | some v => if v = p.2 then some φ else none
    | none => some (upF φ s p.2)
def goF (φ : Fn) : List (Key × Key) → Option Fn
  | [] => some φ
  | p :: l => (stepF φ p).bind fun ψ => goF ψ l
theorem goF_app (φ : Fn) : ∀ l l' : List (Key × Key), goF φ (l ++ l') = (goF φ l).bind fun ψ => goF ψ l'
  | [], l' => rfl
  | p :: l, l' => by
    show (stepF φ p).bind _ = ((stepF φ p).bind _).bind _
    cases stepF φ p with
    | none => rfl
    | some ψ => exact goF_app ψ l l'
theorem upF_same {φ : Fn} {s : Str} {t : Key} : upF φ s t s = some t := if_pos rfl
theorem upF_ne {φ : Fn} {s u : Str} {t : Key} (h : u ≠ s) : upF φ s t u = φ u := if_neg h
theorem upF_comm {φ : Fn} {s u : Str} {t v : Key} (h : s ≠ u) : upF (upF φ s t) u v = upF (upF φ u v) s t := by
  funext x
  unfold upF
  by_cases h1 : x = u
  · by_cases h2 : x = s
    · exact (h (by rw [← h1, h2])).elim
    · rw [if_pos h1, if_neg h2, if_pos h1]
  · by_cases h2 : x = s
    · rw [if_neg h1, if_pos h2, if_pos h2]
    · rw [if_neg h1, if_neg h2, if_neg h2, if_neg h1]
theorem stepF_comm (φ : Fn) (p q : Key × Key) : ((stepF φ p).bind fun ψ => stepF ψ q) = (stepF φ q).bind fun ψ => stepF ψ p := by
  obtain ⟨k, t⟩ := p
  obtain ⟨k', t'⟩ := q
  cases k with
  | inl i =>
    have e : ∀ ψ : Fn, stepF ψ (.inl i, t) = if Sum.inl i = t then some ψ else none := fun ψ => rfl
    simp only [e]
    by_cases h : (Sum.inl i : Key) = t
    · simp only [if_pos h, Option.bind_some]
      cases stepF φ (k', t') <;> rfl
    · simp only [if_neg h, Option.bind_none]
      cases stepF φ (k', t') <;> rfl
  | inr s =>
    cases k' with
    | inl i =>
      have e : ∀ ψ : Fn, stepF ψ (.inl i, t') = if Sum.inl i = t' then some ψ else none := fun ψ => rfl
      simp only [e]
      by_cases h : (Sum.inl i : Key) = t'
      · simp only [if_pos h, Option.bind_some]
        cases stepF φ (.inr s, t) <;> rfl
      · simp only [if_neg h, Option.bind_none]
        cases stepF φ (.inr s, t) <;> rfl
    | inr u =>
      have ev : ∀ (ψ : Fn) (s : Str) (t v : Key), ψ s = some v → stepF ψ (.inr s, t) = if v = t then some ψ else none := fun ψ s t v h => by
        show (match ψ s with | some v => if v = t then some ψ else none | none => some (upF ψ s t)) = _
        rw [h]
      have en : ∀ (ψ : Fn) (s : Str) (t : Key), ψ s = none → stepF ψ (.inr s, t) = some (upF ψ s t) := fun ψ s t h => by
        show (match ψ s with | some v => if v = t then some ψ else none | none => some (upF ψ s t)) = _
        rw [h]
      by_cases su : s = u
      · subst su
        cases h : φ s with
        | some v =>
          rw [ev φ s t v h, ev φ s t' v h]
          by_cases a : v = t <;> by_cases b : v = t'
          · rw [if_pos a, if_pos b, Option.bind_some, Option.bind_some, ev φ s t v h, ev φ s t' v h, if_pos a, if_pos b]
          · rw [if_pos a, if_neg b, Option.bind_some, Option.bind_none, ev φ s t' v h, if_neg b]
          · rw [if_neg a, if_pos b, Option.bind_some, Option.bind_none, ev φ s t v h, if_neg a]
          · rw [if_neg a, if_neg b]; rfl
        | none =>
          rw [en φ s t h, en φ s t' h, Option.bind_some, Option.bind_some, ev _ s t' t upF_same, ev _ s t t' upF_same]
          by_cases a : t = t'
          · rw [if_pos a, if_pos a.symm, a]
          · rw [if_neg a, if_neg (Ne.symm a)]
      · cases h : φ s with
        | some v =>
          cases h' : φ u with
          | some v' =>
            rw [ev φ s t v h, ev φ u t' v' h']
            by_cases a : v = t <;> by_cases b : v' = t'
            · rw [if_pos a, if_pos b, Option.bind_some, Option.bind_some, ev φ s t v h, ev φ u t' v' h', if_pos a, if_pos b]
            · rw [if_pos a, if_neg b, Option.bind_some, Option.bind_none, ev φ u t' v' h', if_neg b]
            · rw [if_neg a, if_pos b, Option.bind_some, Option.bind_none, ev φ s t v h, if_neg a]
            · rw [if_neg a, if_neg b]; rfl
          | none =>
            rw [ev φ s t v h, en φ u t' h', Option.bind_some, ev (upF φ u t') s t v (by rw [upF_ne su]; exact h)]
            by_cases a : v = t
            · rw [if_pos a, if_pos a, Option.bind_some, en φ u t' h']
            · rw [if_neg a, if_neg a]; rfl
        | none =>
          cases h' : φ u with
          | some v' =>
            rw [en φ s t h, ev φ u t' v' h', Option.bind_some, ev (upF φ s t) u t' v' (by rw [upF_ne (Ne.symm su)]; exact h')]
            by_cases b : v' = t'
            · rw [if_pos b, if_pos b, Option.bind_some, en φ s t h]
            · rw [if_neg b, if_neg b]; rfl
          | none =>
            rw [en φ s t h, en φ u t' h', Option.bind_some, Option.bind_some, en (upF φ s t) u t' (by rw [upF_ne (Ne.symm su)]; exact h'), en (upF φ u t') s t (by rw [upF_ne su]; exact h), upF_comm su]
theorem goF_perm {l l' : List (Key × Key)} (h : l.Perm l') : ∀ φ : Fn, goF φ l = goF φ l' := by
  induction h with
  | nil => intro φ; rfl
  | cons x _ ih =>
    intro φ
    show (stepF φ x).bind _ = (stepF φ x).bind _
    cases stepF φ x with
    | none => rfl
    | some ψ => exact ih ψ
  | swap x y l =>
    intro φ
    show ((stepF φ y).bind fun ψ => (stepF ψ x).bind fun χ => goF χ l) = (stepF φ x).bind fun ψ => (stepF ψ y).bind fun χ => goF χ l
    have := stepF_comm φ y x
    rw [← Option.bind_assoc, ← Option.bind_assoc, this]
  | trans _ _ a b => intro φ; rw [a φ, b φ]
/-! ### maps as functions -/
def lk (m : List (Str × Key)) : Fn := look m
theorem lk_snoc {m : List (Str × Key)} {s : Str} {t : Key} (h : look m s = none) : lk (m ++ [(s, t)]) = upF (lk m) s t := by
  funext u
  unfold lk upF
  by_cases e : u = s
  · rw [if_pos e, e, look_last h]
  · rw [if_neg e]
    unfold look
    rw [List.find?_append]
    cases ef : m.find? fun p => decide (p.1 = u) with
    | some q => rfl
    | none =>
      simp only [Option.none_or]
      rw [List.find?_cons_of_neg (by simpa using Ne.symm e)]
      rfl
theorem stepB_lk (m : List (Str × Key)) (k t : Key) : (stepB m k t).map lk = stepF (lk m) (k, t) := by
  cases k with
  | inl i =>
    show (if Sum.inl i = t then some m else none).map lk = if Sum.inl i = t then some (lk m) else none
    split <;> rfl
  | inr s =>
    show (match look m s with | some v => if v = t then some m else none | none => some (m ++ [(s, t)])).map lk = match look m s with | some v => if v = t then some (lk m) else none | none => some (upF (lk m) s t)
    cases h : look m s with
    | some v => simp only; split <;> rfl
    | none => simp only [Option.map_some, lk_snoc h]
theorem goB_lk : ∀ (ks ts : List Key) (m : List (Str × Key)), (goB m ks ts).map lk = goF (lk m) (ks.zip ts)
  | [], ts, m => by cases ts <;> rfl
  | k :: ks, [], m => rfl
  | k :: ks, t :: ts, m => by
    show (match stepB m k t with | some m' => goB m' ks ts | none => none).map lk = (stepF (lk m) (k, t)).bind _
    rw [← stepB_lk]
    cases stepB m k t with
    | none => rfl
    | some m' => exact goB_lk ks ts m'
/-- an unknown that is bound stays so -/
theorem go_mono : ∀ (l : List (Key × Key)) (φ ψ : Fn) (s : Str) (v : Key), goF φ l = some ψ → φ s = some v → ψ s = some v
  | [], φ, ψ, s, v, h, e => by cases h; exact e
  | (k, t) :: l, φ, ψ, s, v, h, e => by
    have h : (stepF φ (k, t)).bind (fun ψ => goF ψ l) = some ψ := h
    cases hs : stepF φ (k, t) with
    | none => rw [hs] at h; cases h
    | some χ =>
      rw [hs] at h
      refine go_mono l χ ψ s v h ?_
      cases k with
      | inl i =>
        have hs : (if Sum.inl i = t then some φ else none) = some χ := hs
        split at hs
        · cases hs; exact e
        · cases hs
      | inr u =>
        have hs : (match φ u with | some w => if w = t then some φ else none | none => some (upF φ u t)) = some χ := hs
        cases hu : φ u with
        | some w =>
          rw [hu] at hs
          simp only at hs
          split at hs
          · cases hs; exact e
          · cases hs
        | none =>
          rw [hu] at hs
          cases hs
          by_cases z : s = u
          · rw [z, hu] at e; cases e
          · rw [upF_ne z]; exact e
theorem go_bound : ∀ (l : List (Key × Key)) (φ ψ : Fn) (s : Str) (t : Key), goF φ l = some ψ → (Sum.inr s, t) ∈ l → ψ s = some t
  | (k, t') :: l, φ, ψ, s, t, h, hm => by
    have h0 : (stepF φ (k, t')).bind (fun ψ => goF ψ l) = some ψ := h
    cases hs : stepF φ (k, t') with
    | none => rw [hs] at h0; cases h0
    | some χ =>
      rw [hs] at h0
      rcases List.mem_cons.mp hm with e | hm
      · cases e
        refine go_mono l χ ψ s t' h0 ?_
        have hs : (match φ s with | some w => if w = t' then some φ else none | none => some (upF φ s t')) = some χ := hs
        cases hu : φ s with
        | some w =>
          rw [hu] at hs
          simp only at hs
          split at hs
          · rename_i e
            cases hs
            rw [hu, e]
          · cases hs
        | none =>
          rw [hu] at hs
          cases hs
          exact upF_same
      · exact go_bound l χ ψ s t h0 hm
end Fm

namespace Fm
open PySem PySem.Spec PyProof.Rows L2
/-! ### the search for a map -/
def mapF (ors : List (Str × List Key)) : List (Str × List Key) → List Nat → List (Str × Key) → Option (List Nat)
  | [], ch, _ => some ch
  | r :: rest, ch, m => ors.zipIdx.findSome? fun o => if o.1.1 = r.1 then (match bnd m r.2 o.1.2 with | some m' => mapF ors rest (ch ++ [o.2]) m' | none => none) else none
theorem stepB_len {m m' : List (Str × Key)} {k t : Key} (h : stepB m k t = some m') : m'.length ≤ m.length + 1 := by
  unfold stepB at h
  cases k with
  | inl i =>
    simp only at h
    split at h
    · cases h; omega
    · cases h
  | inr s =>
    simp only at h
    split at h
    · split at h
      · cases h; omega
      · cases h
    · cases h; simp
theorem goB_len : ∀ {ks ts : List Key} {m m' : List (Str × Key)}, goB m ks ts = some m' → m'.length ≤ m.length + ks.length
  | [], _, m, m', h => by cases h; omega
  | _ :: _, [], m, m', h => by cases h; omega
  | k :: ks, t :: ts, m, m', h => by
    unfold goB at h
    split at h
    · rename_i m1 h1
      have a := stepB_len h1
      have b := goB_len h
      rw [List.length_cons]; omega
    · cases h
theorem bnd_len {m m' : List (Str × Key)} {ks ts : List Key} (h : bnd m ks ts = some m') : m'.length ≤ m.length + ks.length := by
  unfold bnd at h
  split at h
  · exact goB_len h
  · cases h
def chV (ch : List Nat) : List V := ch.map fun (k : Nat) => V.int k
def spMapped (n : Nat) : Sp := fun vs H Q _ => ∃ (A B c D : Addr) (xs ys : List V) (rs os : List (Str × List Key)) (ch : List Nat) (m : List (Str × Key)), vs = [.ref A, .ref B, .ref c, .ref D] ∧ H A = some (.tup xs) ∧ ImAll H 2 xs (rs.map dPR) ∧ H B = some (.tup ys) ∧ ImAll H 2 ys (os.map dPR) ∧ H c = some (.tup (chV ch)) ∧ Rd H D (.dK (kvM m)) ∧
  rs.length = ch.length + n ∧ rs.length ≤ 6 ∧ os.length ≤ 6 ∧ (∀ r ∈ rs, r.2.length ≤ 4) ∧ m.length + 4 * n ≤ 900 ∧
  (mapF os (rs.drop ch.length) ch m = none → ∀ H', Kp [] H H' → Q .non H') ∧ (∀ l p H', mapF os (rs.drop ch.length) ch m = some l → Kp [] H H' → H' p = some (.tup (chV l)) → Q (.ref p) H')
def spMappedB : Nat → Sp
  | 0 => fun _ _ _ _ => False
  | n + 1 => spMapped n
end Fm

namespace Fm
open PySem PySem.Spec PyProof.Rows L2
/-! ### a map judged row by row -/
abbrev Mp := List (Str × Key)
abbrev Row := Str × List Key
def mapS (os : List Row) (r : Row) (i : Nat) : Option Mp → Option Mp
  | none => none
  | some m => match os[i]? with
    | some o => if r.1 = o.1 then bnd m r.2 o.2 else none
    | none => none
def mapG (os : List Row) : List Row → List Nat → Option Mp → Option Mp
  | r :: rs, i :: is, o => mapG os rs is (mapS os r i o)
  | _, _, o => o
theorem mapG_none (os : List Row) : ∀ (rs : List Row) (is : List Nat), mapG os rs is none = none
  | [], _ => by unfold mapG; rfl
  | _ :: _, [] => by unfold mapG; rfl
  | r :: rs, i :: is => by unfold mapG; exact mapG_none os rs is
theorem mapG_drop {os rs : List Row} {ch : List Nat} {k : Nat} {r : Row} {i : Nat} {o : Option Mp} (hr : rs[k]? = some r) (hi : ch[k]? = some i) : mapG os (rs.drop k) (ch.drop k) o = mapG os (rs.drop (k + 1)) (ch.drop (k + 1)) (mapS os r i o) := by
  obtain ⟨h1, e1⟩ := List.getElem?_eq_some_iff.mp hr
  obtain ⟨h2, e2⟩ := List.getElem?_eq_some_iff.mp hi
  rw [List.drop_eq_getElem_cons h1, List.drop_eq_getElem_cons h2, e1, e2]; rfl
theorem mapG_app {os : List Row} {r : Row} {i : Nat} : ∀ {rs : List Row} {ch : List Nat} {o : Option Mp}, rs.length = ch.length → mapG os (rs ++ [r]) (ch ++ [i]) o = mapS os r i (mapG os rs ch o)
  | [], [], o, _ => by simp [mapG]
  | [], _ :: _, _, h => by cases h
  | _ :: _, [], _, h => by cases h
  | a :: rs, b :: ch, o, h => by
    rw [List.cons_append, List.cons_append]
    unfold mapG
    exact mapG_app (Nat.succ.inj h)
theorem mapS_some {os : List Row} {r : Row} {i : Nat} {o : Option Mp} (h : (mapS os r i o).isSome) : o.isSome ∧ i < os.length := by
  cases o with
  | none => cases h
  | some m =>
    refine ⟨rfl, ?_⟩
    unfold mapS at h
    cases e : os[i]? with
    | none => simp only [e] at h; cases h
    | some o => exact (List.getElem?_eq_some_iff.mp e).1
/-- the search finds a map exactly if there is one -/
theorem mapF_find {os : List Row} : ∀ {rest : List Row} {ch : List Nat} {m : Mp} {l : List Nat}, mapF os rest ch m = some l → ∃ t, l = ch ++ t ∧ t.length = rest.length ∧ (∀ i ∈ t, i < os.length) ∧ (mapG os rest t (some m)).isSome
  | [], ch, m, l, h => by
    unfold mapF at h
    cases h
    exact ⟨[], by simp, rfl, (fun _ h => nomatch h), rfl⟩
  | r :: rest, ch, m, l, h => by
    unfold mapF at h
    obtain ⟨⟨o, i⟩, ho, h⟩ := List.exists_of_findSome?_eq_some h
    obtain ⟨hi, e⟩ := List.mem_zipIdx' ho
    simp only at h
    split at h
    · rename_i en
      split at h
      · rename_i m' hb
        obtain ⟨t, rfl, lt, ht, g⟩ := mapF_find h
        refine ⟨i :: t, by rw [List.append_assoc]; rfl, by rw [List.length_cons, List.length_cons, lt], fun j hj => ?_, ?_⟩
        · rcases List.mem_cons.mp hj with rfl | hj
          · exact hi
          · exact ht j hj
        · have es : mapS os r i (some m) = some m' := by
            have e' : os[i]? = some o := by rw [List.getElem?_eq_getElem hi, ← e]
            unfold mapS
            simp only [e']
            rw [if_pos en.symm, hb]
          show (mapG os rest t (mapS os r i (some m))).isSome = true
          rw [es]; exact g
      · cases h
    · cases h
theorem mapF_ex {os : List Row} : ∀ {rest : List Row} {t : List Nat} (ch : List Nat) {m : Mp}, t.length = rest.length → (mapG os rest t (some m)).isSome → (mapF os rest ch m).isSome
  | [], _, _, _, _, _ => by unfold mapF; rfl
  | _ :: _, [], _, _, h, _ => by cases h
  | r :: rest, i :: t, ch, m, h, g => by
    unfold mapF
    have g : (mapG os rest t (mapS os r i (some m))).isSome := g
    cases es : mapS os r i (some m) with
    | none => rw [es, mapG_none] at g; cases g
    | some m' =>
      rw [es] at g
      have ih := mapF_ex (ch ++ [i]) (Nat.succ.inj h) g
      have hi := (mapS_some (os := os) (r := r) (i := i) (o := some m) (by rw [es]; rfl)).2
      cases ef : (os.zipIdx.findSome? fun o => if o.1.1 = r.1 then (match bnd m r.2 o.1.2 with | some m' => mapF os rest (ch ++ [o.2]) m' | none => none) else none) with
      | some l => rfl
      | none =>
        exfalso
        have hm : (os[i], i) ∈ os.zipIdx := by
          refine List.mem_of_getElem? (i := i) ?_
          rw [List.getElem?_zipIdx, List.getElem?_eq_getElem hi]; simp
        have := List.findSome?_eq_none_iff.mp ef _ hm
        unfold mapS at es
        simp only [List.getElem?_eq_getElem hi] at es
        split at es
        · rename_i en
          simp only [en.symm, if_true, es] at this
          rw [this] at ih; cases ih
        · cases es
/-- all beginnings, row by row -/
def lvl (os rs : List Row) (o : Option Mp) : Nat → List (List Nat)
  | 0 => [[]]
  | k + 1 => (lvl os rs o k).flatMap fun ch => ((List.range os.length).filter fun i => (mapG os (rs.take (k + 1)) (ch ++ [i]) o).isSome).map fun i => ch ++ [i]
theorem mapG_lt {os : List Row} : ∀ {rs : List Row} {ch : List Nat} {o : Option Mp}, rs.length = ch.length → (mapG os rs ch o).isSome → ∀ x ∈ ch, x < os.length
  | [], [], _, _, _, _, h => nomatch h
  | [], _ :: _, _, h, _, _, _ => by cases h
  | _ :: _, [], _, h, _, _, _ => by cases h
  | r :: rs, i :: ch, o, h, g, x, hx => by
    have g : (mapG os rs ch (mapS os r i o)).isSome := g
    rcases List.mem_cons.mp hx with rfl | hx
    · cases e : mapS os r x o with
      | none => rw [e, mapG_none] at g; cases g
      | some m => exact (mapS_some (os := os) (r := r) (i := x) (o := o) (by rw [e]; rfl)).2
    · exact mapG_lt (Nat.succ.inj h) g x hx
theorem lvl_mem {os rs : List Row} {o : Option Mp} : ∀ {k : Nat} {ch : List Nat}, k ≤ rs.length → (ch ∈ lvl os rs o k ↔ ch.length = k ∧ (k = 0 ∨ (mapG os (rs.take k) ch o).isSome))
  | 0, ch, _ => by
    unfold lvl
    simp [List.length_eq_zero_iff]
  | k + 1, ch, hk => by
    unfold lvl
    obtain ⟨r, hr⟩ : ∃ r, rs[k]? = some r := ⟨_, List.getElem?_eq_getElem (by omega)⟩
    have et : rs.take (k + 1) = rs.take k ++ [r] := take_snoc hr
    have lt : (rs.take k).length = k := by rw [List.length_take]; omega
    constructor
    · intro h
      obtain ⟨c0, h0, h1⟩ := List.mem_flatMap.mp h
      obtain ⟨i, hi, rfl⟩ := List.mem_map.mp h1
      obtain ⟨hi, hs⟩ := List.mem_filter.mp hi
      have := (lvl_mem (by omega)).mp h0
      exact ⟨by rw [List.length_append, this.1]; rfl, .inr hs⟩
    · rintro ⟨hl, h | h⟩
      · omega
      · have ne : ch ≠ [] := fun z => by rw [z] at hl; cases hl
        have e := List.dropLast_concat_getLast ne
        rw [← e] at h ⊢
        have l0 : ch.dropLast.length = k := by rw [List.length_dropLast]; omega
        rw [et, mapG_app (by rw [lt, l0])] at h
        obtain ⟨h1, h2⟩ := mapS_some h
        refine List.mem_flatMap.mpr ⟨ch.dropLast, (lvl_mem (by omega)).mpr ⟨l0, .inr h1⟩, List.mem_map.mpr ⟨ch.getLast ne, List.mem_filter.mpr ⟨List.mem_range.mpr h2, ?_⟩, rfl⟩⟩
        rw [et, mapG_app (by rw [lt, l0])]
        exact h
/-- each pattern into itself -/
def Idm (m : Mp) : Prop := ∀ s v, look m s = some v → v = .inr s
theorem goB_id : ∀ {ks : List Key} {m : Mp}, Idm m → ∃ m', goB m ks ks = some m' ∧ Idm m'
  | [], m, h => ⟨m, rfl, h⟩
  | k :: ks, m, h => by
    obtain ⟨m1, e1, h1⟩ : ∃ m1, stepB m k k = some m1 ∧ Idm m1 := by
      cases k with
      | inl i => exact ⟨m, by unfold stepB; exact if_pos rfl, h⟩
      | inr s =>
        cases el : look m s with
        | some v => exact ⟨m, by unfold stepB; simp only [el]; exact if_pos (h s v el), h⟩
        | none =>
          refine ⟨m ++ [(s, .inr s)], by unfold stepB; simp only [el], fun s' v hv => ?_⟩
          unfold look at hv
          rw [List.find?_append] at hv
          cases e : m.find? fun p => decide (p.1 = s') with
          | some p =>
            refine h s' v ?_
            unfold look
            rw [e] at hv ⊢
            exact hv
          | none =>
            rw [e] at hv
            by_cases z : s = s'
            · subst z; simp at hv; exact hv.symm
            · simp [z] at hv
    obtain ⟨m2, e2, h2⟩ := goB_id (ks := ks) h1
    refine ⟨m2, ?_, h2⟩
    unfold goB
    simp only [e1]; exact e2
theorem bnd_id {ks : List Key} {m : Mp} (h : Idm m) : ∃ m', bnd m ks ks = some m' ∧ Idm m' := by
  unfold bnd; rw [if_pos rfl]; exact goB_id h
theorem mapG_id {R : List Row} : ∀ {k : Nat} {m : Mp}, k ≤ R.length → Idm m → ∃ m', mapG R (R.take k) (List.range k) (some m) = some m' ∧ Idm m'
  | 0, m, _, h => ⟨m, by simp [mapG], h⟩
  | k + 1, m, hk, h => by
    obtain ⟨m1, e1, h1⟩ := mapG_id (R := R) (k := k) (m := m) (by omega) h
    obtain ⟨r, hr⟩ : ∃ r, R[k]? = some r := ⟨_, List.getElem?_eq_getElem (by omega)⟩
    obtain ⟨m2, e2, h2⟩ := bnd_id (ks := r.2) h1
    refine ⟨m2, ?_, h2⟩
    rw [take_snoc hr, List.range_succ, mapG_app (by rw [List.length_take, List.length_range]; omega), e1]
    unfold mapS
    simp only [hr, if_true]
    exact e2
end Fm

namespace Fm
open PySem PySem.Spec PyProof.Rows L2
/-! ### the unknowns turned into other strings: plain -/
def kvFrom (f : Nat → Str) (j : Nat) (ns : List Str) : List (Key × V) := (ns.zipIdx j).map fun p => (.inr p.1, .str (f p.2))
abbrev kvF (f : Nat → Str) (ns : List Str) : List (Key × V) := kvFrom f 0 ns
theorem kvF_len (f : Nat → Str) (j : Nat) (ns : List Str) : (kvFrom f j ns).length = ns.length := by unfold kvFrom; rw [List.length_map, List.length_zipIdx]
theorem kvF_snoc (f : Nat → Str) (ns : List Str) (s : Str) : kvF f (ns ++ [s]) = kvF f ns ++ [(.inr s, .str (f ns.length))] := by
  unfold kvF kvFrom
  rw [List.zipIdx_append, List.map_append, Nat.zero_add]; rfl
theorem valV_kvFrom (f : Nat → Str) (s : Str) : ∀ (ns : List Str) (j : Nat), valV (kvFrom f j ns) (.inr s) = if s ∈ ns then some (.str (f (j + ns.idxOf s))) else none
  | [], _ => rfl
  | a :: ns, j => by
    have ih := valV_kvFrom f s ns (j + 1)
    have e : kvFrom f j (a :: ns) = (.inr a, .str (f j)) :: kvFrom f (j + 1) ns := rfl
    rw [e]
    by_cases h : a = s
    · subst h
      unfold valV
      rw [List.find?_cons_of_pos (by simp), if_pos List.mem_cons_self, List.idxOf_cons_self]; rfl
    · have h' : ¬ s = a := fun z => h z.symm
      unfold valV at ih ⊢
      rw [List.find?_cons_of_neg (by simp [h]), ih]
      by_cases hm : s ∈ ns
      · rw [if_pos hm, if_pos (List.mem_cons_of_mem _ hm), show (a :: ns).idxOf s = ns.idxOf s + 1 from (by
          rw [List.idxOf_cons]
          cases e : (a == s) with
          | true => exact absurd (eq_of_beq e) h
          | false => rfl)]
        rw [show j + 1 + ns.idxOf s = j + (ns.idxOf s + 1) by omega]
      · rw [if_neg hm, if_neg (fun z => (List.mem_cons.mp z).elim h' hm)]
theorem valV_kvF (f : Nat → Str) (s : Str) (ns : List Str) : valV (kvF f ns) (.inr s) = if s ∈ ns then some (.str (f (ns.idxOf s))) else none := by
  rw [valV_kvFrom, Nat.zero_add]
/-- what a string is turned into -/
def tn (f : Nat → Str) (ns : List Str) (s : Str) : Str := f (ns.idxOf s)
def tk (f : Nat → Str) (ns : List Str) : Key → Key
  | .inl i => .inl i
  | .inr s => .inr (tn f ns s)
def tr (f : Nat → Str) (ns : List Str) (r : Str × List Key) : Str × List Key := (r.1, r.2.map (tk f ns))
def tp (f : Nat → Str) (ns : List Str) (p : Str × Int) : Str × Int := (tn f ns p.1, p.2)
def Inj24 (f : Nat → Str) : Prop := ∀ i j, i < 24 → j < 24 → f i = f j → i = j
theorem tn_inj {f : Nat → Str} {ns : List Str} (hf : Inj24 f) (hn : ns.length ≤ 24) {s t : Str} (hs : s ∈ ns) (ht : t ∈ ns) (h : tn f ns s = tn f ns t) : s = t := by
  have a := List.idxOf_lt_length_of_mem hs
  have b := List.idxOf_lt_length_of_mem ht
  have e := hf _ _ (by omega) (by omega) h
  have e1 := List.getElem_idxOf a
  have e2 := List.getElem_idxOf b
  rw [← e1, ← e2]
  simp only [e]
theorem idx_map {g : Str → Str} {N : List Str} (hg : ∀ a ∈ N, ∀ b ∈ N, g a = g b → a = b) {s : Str} (hs : s ∈ N) : ∀ {ms : List Str}, (∀ a ∈ ms, a ∈ N) → (ms.map g).idxOf (g s) = ms.idxOf s
  | [], _ => rfl
  | a :: ms, h => by
    rw [List.map_cons, List.idxOf_cons, List.idxOf_cons, idx_map hg hs fun x hx => h x (List.mem_cons_of_mem _ hx)]
    by_cases e : a = s
    · subst e; simp
    · have e' : ¬ g a = g s := fun z => e (hg a (h a List.mem_cons_self) s hs z)
      rw [beq_eq_false_iff_ne.mpr e, beq_eq_false_iff_ne.mpr e']
theorem addN_map {g : Str → Str} {N : List Str} (hg : ∀ a ∈ N, ∀ b ∈ N, g a = g b → a = b) {ms : List Str} (hm : ∀ a ∈ ms, a ∈ N) {s : Str} (hs : s ∈ N) : addN (ms.map g) (.inr (g s)) = (addN ms (.inr s)).map g := by
  rw [addN_inr, addN_inr]
  by_cases h : s ∈ ms
  · rw [if_pos h, if_pos (List.mem_map.mpr ⟨s, h, rfl⟩)]
  · rw [if_neg h, if_neg, List.map_append]; rfl
    intro z
    obtain ⟨x, hx, e⟩ := List.mem_map.mp z
    exact h (hg x (hm x hx) s hs e ▸ hx)
theorem foldN_mem {N : List Str} : ∀ (ks : List Key) {ms : List Str}, (∀ a ∈ ms, a ∈ N) → (∀ s, Sum.inr s ∈ ks → s ∈ N) → ∀ a ∈ ks.foldl addN ms, a ∈ N
  | [], _, h, _ => h
  | k :: ks, ms, h, hk => foldN_mem ks (fun a ha => by
      cases k with
      | inl _ => exact h a ha
      | inr t =>
        rw [addN_inr] at ha
        split at ha
        · exact h a ha
        · rcases List.mem_append.mp ha with q | q
          · exact h a q
          · rw [List.mem_singleton.mp q]; exact hk t List.mem_cons_self) fun s hs => hk s (List.mem_cons_of_mem _ hs)
theorem foldN_map {f : Nat → Str} {N : List Str} (hg : ∀ a ∈ N, ∀ b ∈ N, tn f N a = tn f N b → a = b) : ∀ (ks : List Key) {ms : List Str}, (∀ a ∈ ms, a ∈ N) → (∀ s, Sum.inr s ∈ ks → s ∈ N) → (ks.map (tk f N)).foldl addN (ms.map (tn f N)) = (ks.foldl addN ms).map (tn f N)
  | [], _, _, _ => rfl
  | .inl i :: ks, ms, h, hk => foldN_map hg ks h fun s hs => hk s (List.mem_cons_of_mem _ hs)
  | .inr t :: ks, ms, h, hk => by
    have ht := hk t List.mem_cons_self
    have hk' : ∀ s, Sum.inr s ∈ ks → s ∈ N := fun s hs => hk s (List.mem_cons_of_mem _ hs)
    rw [List.map_cons, List.foldl_cons, List.foldl_cons]
    show List.foldl addN (addN (ms.map (tn f N)) (.inr (tn f N t))) _ = _
    rw [addN_map hg h ht]
    exact foldN_map hg ks (foldN_mem [.inr t] h fun s hs => by rw [Sum.inr.inj (List.mem_singleton.mp hs)]; exact ht) hk'
theorem foldR_map {f : Nat → Str} {N : List Str} (hg : ∀ a ∈ N, ∀ b ∈ N, tn f N a = tn f N b → a = b) : ∀ (ps : List (Str × List Key)) {ms : List Str}, (∀ a ∈ ms, a ∈ N) → (∀ r ∈ ps, ∀ s, Sum.inr s ∈ r.2 → s ∈ N) → (ps.map (tr f N)).foldl addR (ms.map (tn f N)) = (ps.foldl addR ms).map (tn f N)
  | [], _, _, _ => rfl
  | r :: ps, ms, h, hk => by
    rw [List.map_cons, List.foldl_cons, List.foldl_cons]
    show List.foldl addR ((r.2.map (tk f N)).foldl addN (ms.map (tn f N))) _ = _
    rw [foldN_map hg r.2 h (hk r List.mem_cons_self)]
    exact foldR_map hg ps (foldN_mem r.2 h (hk r List.mem_cons_self)) fun x hx => hk x (List.mem_cons_of_mem _ hx)
theorem namesP_tr {f : Nat → Str} {ps : List (Str × List Key)} (hf : Inj24 f) (ok : PsOk ps) : namesP (ps.map (tr f (namesP ps))) = (namesP ps).map (tn f (namesP ps)) :=
  foldR_map (N := namesP ps) (fun a ha b hb e => tn_inj hf (namesP_len ok) ha hb e) ps (ms := []) (fun a h => nomatch h) fun r hr s hs => foldR_in ps [] s r hr hs
theorem ren_tk {f : Nat → Str} {N : List Str} (hf : Inj24 f) (hn : N.length ≤ 24) {k : Key} (h : ∀ s, k = .inr s → s ∈ N) : ren (N.map (tn f N)) (tk f N k) = ren N k := by
  cases k with
  | inl i => rfl
  | inr s =>
    have hs := h s rfl
    show ren (N.map (tn f N)) (.inr (tn f N s)) = _
    rw [ren_inr, ren_inr, if_pos hs, if_pos (List.mem_map.mpr ⟨s, hs, rfl⟩), idx_map (N := N) (fun a ha b hb e => tn_inj hf hn ha hb e) hs (fun a ha => ha)]
theorem canP_tr {f : Nat → Str} {ps : List (Str × List Key)} {g : List Key} {pw : List (Str × Int)} (hf : Inj24 f) (ok : PsOk ps) (hg : ∀ s, Sum.inr s ∈ g → s ∈ namesP ps) (hw : PwOk (namesP ps) pw) : canP (ps.map (tr f (namesP ps))) (g.map (tk f (namesP ps))) (pw.map (tp f (namesP ps))) = canP ps g pw := by
  have hn := namesP_len ok
  have e1 : (ps.map (tr f (namesP ps))).map (renR ((namesP ps).map (tn f (namesP ps)))) = ps.map (renR (namesP ps)) := by
    rw [List.map_map]
    refine List.map_congr_left fun r hr => ?_
    show (r.1, (r.2.map (tk f (namesP ps))).map (ren _)) = (r.1, r.2.map (ren (namesP ps)))
    rw [List.map_map]
    congr 1
    exact List.map_congr_left fun k hk => ren_tk hf hn fun s e => foldR_in ps [] s r hr (e ▸ hk)
  have e2 : (g.map (tk f (namesP ps))).map (ren ((namesP ps).map (tn f (namesP ps)))) = g.map (ren (namesP ps)) := by
    rw [List.map_map]
    exact List.map_congr_left fun k hk => ren_tk hf hn fun s e => hg s (e ▸ hk)
  have e3 : (pw.map (tp f (namesP ps))).map (nmPw ((namesP ps).map (tn f (namesP ps)))) = pw.map (nmPw (namesP ps)) := by
    rw [List.map_map]
    refine List.map_congr_left fun p hp => ?_
    show (ltr (((namesP ps).map (tn f (namesP ps))).idxOf (tn f (namesP ps) p.1)), p.2) = (ltr ((namesP ps).idxOf p.1), p.2)
    rw [idx_map (N := namesP ps) (fun a ha b hb e => tn_inj hf hn ha hb e) (hw.2 p hp).1 (fun a ha => ha)]
  unfold canP
  rw [namesP_tr hf ok, e1, e2, e3]
theorem ps_tr_ok {f : Nat → Str} {ps : List (Str × List Key)} {N : List Str} (ok : PsOk ps) (hs : ∀ i, (f i).length ≤ 1000000) : PsOk (ps.map (tr f N)) := by
  refine ⟨by rw [List.length_map]; exact ok.1, fun r hr => ?_⟩
  obtain ⟨r0, h0, rfl⟩ := List.mem_map.mp hr
  obtain ⟨a, b, c, d⟩ := ok.2 r0 h0
  refine ⟨a, by show 1 ≤ (r0.2.map _).length; rw [List.length_map]; exact b, by show (r0.2.map _).length ≤ 4; rw [List.length_map]; exact c, fun k hk => ?_⟩
  obtain ⟨k0, hk0, rfl⟩ := List.mem_map.mp hk
  cases k0 with
  | inl i => exact d _ hk0
  | inr s => exact hs _
theorem g_tr_ok {f : Nat → Str} {ps : List (Str × List Key)} {g : List Key} (hf : Inj24 f) (ok : PsOk ps) (hs : ∀ i, (f i).length ≤ 1000000) (hg : g.length ≤ 3 ∧ (∀ k ∈ g, SymOk k) ∧ ∀ s, Sum.inr s ∈ g → s ∈ namesP ps) : (g.map (tk f (namesP ps))).length ≤ 3 ∧ (∀ k ∈ g.map (tk f (namesP ps)), SymOk k) ∧ ∀ s, Sum.inr s ∈ g.map (tk f (namesP ps)) → s ∈ namesP (ps.map (tr f (namesP ps))) := by
  refine ⟨by rw [List.length_map]; exact hg.1, fun k hk => ?_, fun s h => ?_⟩
  · obtain ⟨k0, hk0, rfl⟩ := List.mem_map.mp hk
    cases k0 with
    | inl i => exact hg.2.1 _ hk0
    | inr s => exact hs _
  · rw [namesP_tr hf ok]
    obtain ⟨k0, hk0, e⟩ := List.mem_map.mp h
    cases k0 with
    | inl i => cases e
    | inr t =>
      cases e
      exact List.mem_map.mpr ⟨t, hg.2.2 t hk0, rfl⟩
theorem w_tr_ok {f : Nat → Str} {ps : List (Str × List Key)} {pw : List (Str × Int)} (hf : Inj24 f) (ok : PsOk ps) (hw : PwOk (namesP ps) pw) : PwOk (namesP (ps.map (tr f (namesP ps)))) (pw.map (tp f (namesP ps))) := by
  refine ⟨?_, fun p hp => ?_⟩
  · rw [List.map_map]
    show (pw.map fun p => tn f (namesP ps) p.1).Nodup
    have : (pw.map fun p => tn f (namesP ps) p.1) = (pw.map (·.1)).map (tn f (namesP ps)) := by rw [List.map_map]; rfl
    rw [this]
    refine List.pairwise_map.mpr (hw.1.imp_of_mem fun {a b} ha hb hne e => hne ?_)
    obtain ⟨pa, ha', rfl⟩ := List.mem_map.mp ha
    obtain ⟨pb, hb', rfl⟩ := List.mem_map.mp hb
    exact tn_inj hf (namesP_len ok) (hw.2 _ ha').1 (hw.2 _ hb').1 e
  · rw [namesP_tr hf ok]
    obtain ⟨p0, h0, rfl⟩ := List.mem_map.mp hp
    exact ⟨List.mem_map.mpr ⟨p0.1, (hw.2 p0 h0).1, rfl⟩, (hw.2 p0 h0).2⟩
end Fm

namespace Fm
open PySem PySem.Spec PyProof.Rows L2
/-! ### sorted pairs: the order of what is sorted does not count -/
def leSI (p q : Str × Int) : Prop := p.1.cps.toList < q.1.cps.toList ∨ (p.1.cps.toList = q.1.cps.toList ∧ p.2 ≤ q.2)
theorem str_cps {a b : Str} (h : a.cps.toList = b.cps.toList) : a = b := by
  cases a; cases b
  congr 1
  exact Array.toList_inj.mp h
theorem le_si (p q : Str × Int) : PySem.W.dataLe false dPow p q = true ↔ leSI p q := by
  show (!PySem.W.dataLt (.tuple [.str q.1, .int q.2]) (.tuple [.str p.1, .int p.2])) = true ↔ _
  rw [PySem.W.dataLt_pair (by simp [PySem.W.alike]) (by simp [PySem.W.alike]), PySem.W.dataLt_int, PySem.W.dataLt_str]
  simp only [PyData.eqv, beq_iff_eq]
  unfold leSI
  by_cases e : q.1 = p.1
  · rw [if_pos e, e]
    have nl : ¬ p.1.cps.toList < p.1.cps.toList := List.lt_irrefl _
    by_cases e2 : q.2 = p.2
    · rw [if_pos e2]
      simp [e2]
    · rw [if_neg e2]
      simp [nl]
  · have e' : ¬ p.1.cps.toList = q.1.cps.toList := fun z => e (str_cps z).symm
    rw [if_neg e]
    simp only [e', false_and, or_false, Bool.not_eq_true', decide_eq_false_iff_not]
    constructor
    · intro h
      rcases List.le_iff_lt_or_eq.mp (List.not_lt.mp h) with z | z
      · exact z
      · exact (e' z).elim
    · intro h z
      exact List.lt_irrefl _ (List.lt_trans h z)
theorem leSI_trans {p q r : Str × Int} (h : leSI p q) (h' : leSI q r) : leSI p r := by
  unfold leSI at *
  rcases h with h | ⟨h, h2⟩ <;> rcases h' with h' | ⟨h', h3⟩
  · exact .inl (List.lt_trans h h')
  · exact .inl (by rw [← h']; exact h)
  · exact .inl (by rw [h]; exact h')
  · exact .inr ⟨h.trans h', by omega⟩
theorem leSI_total (p q : Str × Int) : leSI p q ∨ leSI q p := by
  unfold leSI
  by_cases h : p.1.cps.toList < q.1.cps.toList
  · exact .inl (.inl h)
  · rcases List.le_iff_lt_or_eq.mp (List.not_lt.mp h) with z | z
    · exact .inr (.inl z)
    · rcases Int.le_total p.2 q.2 with y | y
      · exact .inl (.inr ⟨z.symm, y⟩)
      · exact .inr (.inr ⟨z, y⟩)
theorem leSI_anti {p q : Str × Int} (h : leSI p q) (h' : leSI q p) : p = q := by
  unfold leSI at *
  rcases h with h | ⟨h, h2⟩ <;> rcases h' with h' | ⟨h', h3⟩
  · exact (List.lt_irrefl _ (List.lt_trans h h')).elim
  · rw [h'] at h; exact (List.lt_irrefl _ h).elim
  · rw [h] at h'; exact (List.lt_irrefl _ h').elim
  · exact Prod.ext (str_cps h) (by omega)
theorem srt_pw (l : List (Str × Int)) : List.Pairwise (fun a b => PySem.W.dataLe false dPow a b = true) (srt l) :=
  List.pairwise_mergeSort (fun a b c h h' => (le_si a c).mpr (leSI_trans ((le_si a b).mp h) ((le_si b c).mp h'))) (fun a b => by
    rw [Bool.or_eq_true]
    exact (leSI_total a b).imp (le_si a b).mpr (le_si b a).mpr) l
theorem srt_perm (l : List (Str × Int)) : (srt l).Perm l := List.mergeSort_perm l _
theorem srt_eq {l l' : List (Str × Int)} (h : l.Perm l') : srt l = srt l' :=
  List.Perm.eq_of_pairwise (fun a b _ _ h1 h2 => leSI_anti ((le_si a b).mp h1) ((le_si b a).mp h2)) (srt_pw l) (srt_pw l') ((srt_perm l).trans (h.trans (srt_perm l').symm))
/-! ### pairings -/
def lkS (m : Mp) (s : Str) : Str := match look m s with | some (.inr t) => t | _ => s
def sentPw (m : Mp) (pw : List (Str × Int)) : List (Str × Int) := pw.map fun p => (lkS m p.1, p.2)
def bakS (os : List Row) (r : Row) (i : Nat) : Option Mp → Option Mp
  | none => none
  | some m => match os[i]? with
    | some o => bnd m o.2 r.2
    | none => none
def bakG (os : List Row) : List Row → List Nat → Option Mp → Option Mp
  | r :: rs, i :: is, o => bakG os rs is (bakS os r i o)
  | _, _, o => o
theorem bakG_none (os : List Row) : ∀ (rs : List Row) (is : List Nat), bakG os rs is none = none
  | [], _ => by unfold bakG; rfl
  | _ :: _, [] => by unfold bakG; rfl
  | r :: rs, i :: is => by unfold bakG; exact bakG_none os rs is
theorem bakG_app {os : List Row} {r : Row} {i : Nat} : ∀ {rs : List Row} {ch : List Nat} {o : Option Mp}, rs.length = ch.length → bakG os (rs ++ [r]) (ch ++ [i]) o = bakS os r i (bakG os rs ch o)
  | [], [], o, _ => by simp [bakG]
  | [], _ :: _, _, h => by cases h
  | _ :: _, [], _, h => by cases h
  | a :: rs, b :: ch, o, h => by
    rw [List.cons_append, List.cons_append]
    unfold bakG
    exact bakG_app (Nat.succ.inj h)
theorem bakG_drop {os rs : List Row} {ch : List Nat} {k : Nat} {r : Row} {i : Nat} {o : Option Mp} (hr : rs[k]? = some r) (hi : ch[k]? = some i) : bakG os (rs.drop k) (ch.drop k) o = bakG os (rs.drop (k + 1)) (ch.drop (k + 1)) (bakS os r i o) := by
  obtain ⟨h1, e1⟩ := List.getElem?_eq_some_iff.mp hr
  obtain ⟨h2, e2⟩ := List.getElem?_eq_some_iff.mp hi
  rw [List.drop_eq_getElem_cons h1, List.drop_eq_getElem_cons h2, e1, e2]; rfl
/-- the search for a pairing -/
def pairF (os : List Row) (pw pw' : List (Str × Int)) : List Row → List Nat → Mp → Mp → Option (List Nat)
  | [], ch, m, _ => if srt (sentPw m pw) = pw' then some ch else none
  | r :: rest, ch, m, b => os.zipIdx.findSome? fun o => if o.1.1 = r.1 ∧ o.2 ∉ ch then (match bnd m r.2 o.1.2, bnd b o.1.2 r.2 with | some m', some b' => pairF os pw pw' rest (ch ++ [o.2]) m' b' | _, _ => none) else none
def pairP (T U : Pat) : Option (List Nat) := if T.rows.length = U.rows.length then (match bnd [] T.grp U.grp, bnd [] U.grp T.grp with | some m, some b => pairF U.rows T.pws U.pws T.rows [] m b | _, _ => none) else none
def Prg (T U : Pat) (ch : List Nat) : Prop := T.rows.length = U.rows.length ∧ ch.length = T.rows.length ∧ ch.Nodup ∧ (∀ i ∈ ch, i < U.rows.length) ∧ ∃ m b, mapG U.rows T.rows ch (bnd [] T.grp U.grp) = some m ∧ bakG U.rows T.rows ch (bnd [] U.grp T.grp) = some b ∧ srt (sentPw m T.pws) = U.pws
theorem pairF_find {os : List Row} {pw pw' : List (Str × Int)} : ∀ {rest : List Row} {ch : List Nat} {m b : Mp} {l : List Nat}, pairF os pw pw' rest ch m b = some l → ∃ t m' b', l = ch ++ t ∧ t.length = rest.length ∧ t.Nodup ∧ (∀ i ∈ t, i < os.length ∧ i ∉ ch) ∧ mapG os rest t (some m) = some m' ∧ bakG os rest t (some b) = some b' ∧ srt (sentPw m' pw) = pw'
  | [], ch, m, b, l, h => by
    unfold pairF at h
    split at h
    · cases h
      exact ⟨[], m, b, by simp, rfl, List.nodup_nil, (fun _ h => nomatch h), rfl, rfl, ‹_›⟩
    · cases h
  | r :: rest, ch, m, b, l, h => by
    unfold pairF at h
    obtain ⟨⟨o, i⟩, ho, h⟩ := List.exists_of_findSome?_eq_some h
    obtain ⟨hi, e⟩ := List.mem_zipIdx' ho
    simp only at h
    split at h
    · rename_i en
      split at h
      · rename_i m' b' hm hb
        obtain ⟨t, m2, b2, rfl, lt, nd, ht, g1, g2, g3⟩ := pairF_find h
        have e' : os[i]? = some o := by rw [List.getElem?_eq_getElem hi, ← e]
        refine ⟨i :: t, m2, b2, by rw [List.append_assoc]; rfl, by rw [List.length_cons, List.length_cons, lt], List.nodup_cons.mpr ⟨fun z => (ht i z).2 (List.mem_append_right _ (List.mem_singleton.mpr rfl)), nd⟩, fun j hj => ?_, ?_, ?_, g3⟩
        · rcases List.mem_cons.mp hj with rfl | hj
          · exact ⟨hi, en.2⟩
          · exact ⟨(ht j hj).1, fun z => (ht j hj).2 (List.mem_append_left _ z)⟩
        · have es : mapS os r i (some m) = some m' := by
            unfold mapS
            simp only [e']
            rw [if_pos en.1.symm, hm]
          show mapG os rest t (mapS os r i (some m)) = _
          rw [es]; exact g1
        · have es : bakS os r i (some b) = some b' := by
            unfold bakS
            simp only [e']
            exact hb
          show bakG os rest t (bakS os r i (some b)) = _
          rw [es]; exact g2
      · cases h
    · cases h
theorem pairF_ex {os : List Row} {pw pw' : List (Str × Int)} : ∀ {rest : List Row} {t : List Nat} (ch : List Nat) {m b m' b' : Mp}, t.length = rest.length → t.Nodup → (∀ i ∈ t, i ∉ ch) → mapG os rest t (some m) = some m' → bakG os rest t (some b) = some b' → srt (sentPw m' pw) = pw' → (pairF os pw pw' rest ch m b).isSome
  | [], [], ch, m, b, m', b', _, _, _, g, _, s => by
    have g : some m = some m' := g
    cases g
    unfold pairF
    rw [if_pos s]; rfl
  | [], _ :: _, _, _, _, _, _, h, _, _, _, _, _ => by cases h
  | _ :: _, [], _, _, _, _, _, h, _, _, _, _, _ => by cases h
  | r :: rest, i :: t, ch, m, b, m', b', h, nd, hd, g, g2, s => by
    unfold pairF
    have g : mapG os rest t (mapS os r i (some m)) = some m' := g
    have g2 : bakG os rest t (bakS os r i (some b)) = some b' := g2
    obtain ⟨n1, n2⟩ := List.nodup_cons.mp nd
    cases es : mapS os r i (some m) with
    | none => rw [es, mapG_none] at g; cases g
    | some m1 =>
      cases eb : bakS os r i (some b) with
      | none => rw [eb, bakG_none] at g2; cases g2
      | some b1 =>
        rw [es] at g
        rw [eb] at g2
        have ih := pairF_ex (pw := pw) (pw' := pw') (ch ++ [i]) (Nat.succ.inj h) n2 (fun j hj z => by
          rcases List.mem_append.mp z with z | z
          · exact hd j (List.mem_cons_of_mem _ hj) z
          · rw [List.mem_singleton.mp z] at hj; exact n1 hj) g g2 s
        have hi := (mapS_some (os := os) (r := r) (i := i) (o := some m) (by rw [es]; rfl)).2
        cases ef : (os.zipIdx.findSome? fun o => if o.1.1 = r.1 ∧ o.2 ∉ ch then (match bnd m r.2 o.1.2, bnd b o.1.2 r.2 with | some m', some b' => pairF os pw pw' rest (ch ++ [o.2]) m' b' | _, _ => none) else none) with
        | some l => rfl
        | none =>
          exfalso
          have hm : (os[i], i) ∈ os.zipIdx := by
            refine List.mem_of_getElem? (i := i) ?_
            rw [List.getElem?_zipIdx, List.getElem?_eq_getElem hi]; simp
          have := List.findSome?_eq_none_iff.mp ef _ hm
          unfold mapS at es
          unfold bakS at eb
          simp only [List.getElem?_eq_getElem hi] at es eb
          split at es
          · rename_i en
            have h0 : i ∉ ch := hd i List.mem_cons_self
            simp only [en.symm, h0, not_false_eq_true, and_self, if_true, es, eb] at this
            rw [this] at ih; cases ih
          · cases es
theorem pair_find {T U : Pat} {l : List Nat} (h : pairP T U = some l) : Prg T U l := by
  unfold pairP at h
  split at h
  · rename_i hl
    split at h
    · rename_i m b hm hb
      obtain ⟨t, m', b', e, lt, nd, ht, g1, g2, g3⟩ := pairF_find h
      rw [List.nil_append] at e
      subst e
      exact ⟨hl, lt, nd, fun i hi => (ht i hi).1, m', b', by rw [hm]; exact g1, by rw [hb]; exact g2, g3⟩
    · cases h
  · cases h
theorem pair_ex {T U : Pat} {ch : List Nat} (h : Prg T U ch) : (pairP T U).isSome := by
  obtain ⟨hl, lt, nd, hi, m', b', g1, g2, g3⟩ := h
  unfold pairP
  rw [if_pos hl]
  cases e1 : bnd [] T.grp U.grp with
  | none => rw [e1, mapG_none] at g1; cases g1
  | some m =>
    cases e2 : bnd [] U.grp T.grp with
    | none => rw [e2, bakG_none] at g2; cases g2
    | some b =>
      rw [e1] at g1
      rw [e2] at g2
      exact pairF_ex [] lt nd (fun i _ z => nomatch z) g1 g2 g3
end Fm

namespace Fm
open PySem PySem.Spec PyProof.Rows L2
/-! ### pairings as sets of pairs of symbols -/
theorem bnd_go {m m' : Mp} {ks ts : List Key} (h : bnd m ks ts = some m') : ks.length = ts.length ∧ goF (lk m) (ks.zip ts) = some (lk m') := by
  unfold bnd at h
  split at h
  · rename_i hl
    exact ⟨hl, by rw [← goB_lk, h]; rfl⟩
  · cases h
theorem bnd_of {m : Mp} {ks ts : List Key} (hl : ks.length = ts.length) {φ : Fn} (h : goF (lk m) (ks.zip ts) = some φ) : ∃ m', bnd m ks ts = some m' ∧ lk m' = φ := by
  unfold bnd
  rw [if_pos hl]
  rw [← goB_lk] at h
  cases e : goB m ks ts with
  | none => rw [e] at h; cases h
  | some m' => rw [e] at h; exact ⟨m', rfl, Option.some.inj h⟩
def prsG (os : List Row) : List Row → List Nat → List (Key × Key)
  | r :: rs, i :: is => (match os[i]? with | some o => r.2.zip o.2 | none => []) ++ prsG os rs is
  | _, _ => []
inductive OkPr (os : List Row) : List Row → List Nat → Prop
  | nil : OkPr os [] []
  | cons {r o : Row} {rs : List Row} {i : Nat} {is : List Nat} : os[i]? = some o → r.1 = o.1 → r.2.length = o.2.length → OkPr os rs is → OkPr os (r :: rs) (i :: is)
theorem zip_sw : ∀ (a b : List Key), (a.zip b).map Prod.swap = b.zip a
  | [], [] => rfl
  | [], _ :: _ => rfl
  | _ :: _, [] => rfl
  | x :: a, y :: b => by
    show (y, x) :: (a.zip b).map Prod.swap = (y, x) :: b.zip a
    rw [zip_sw a b]
theorem mapG_go {os : List Row} : ∀ {rs : List Row} {ch : List Nat} {m m' : Mp}, rs.length = ch.length → mapG os rs ch (some m) = some m' → OkPr os rs ch ∧ goF (lk m) (prsG os rs ch) = some (lk m')
  | [], [], m, m', _, h => by cases h; exact ⟨.nil, rfl⟩
  | [], _ :: _, _, _, h, _ => by cases h
  | _ :: _, [], _, _, h, _ => by cases h
  | r :: rs, i :: ch, m, m', hl, h => by
    have h : mapG os rs ch (mapS os r i (some m)) = some m' := h
    cases es : mapS os r i (some m) with
    | none => rw [es, mapG_none] at h; cases h
    | some m1 =>
      rw [es] at h
      obtain ⟨ok, g⟩ := mapG_go (Nat.succ.inj hl) h
      unfold mapS at es
      cases eo : os[i]? with
      | none => simp only [eo] at es; cases es
      | some o =>
        simp only [eo] at es
        split at es
        · rename_i en
          obtain ⟨l2, g2⟩ := bnd_go es
          refine ⟨.cons eo en l2 ok, ?_⟩
          unfold prsG
          simp only [eo]
          rw [goF_app, g2]
          exact g
        · cases es
theorem mapG_of {os : List Row} : ∀ {rs : List Row} {ch : List Nat} {m : Mp} {φ : Fn}, OkPr os rs ch → goF (lk m) (prsG os rs ch) = some φ → ∃ m', mapG os rs ch (some m) = some m' ∧ lk m' = φ
  | _, _, m, φ, .nil, h => ⟨m, rfl, Option.some.inj h⟩
  | _, _, m, φ, @OkPr.cons _ r o rs i is eo en el ok, h => by
    unfold prsG at h
    simp only [eo] at h
    rw [goF_app] at h
    cases e1 : goF (lk m) (r.2.zip o.2) with
    | none => rw [e1] at h; cases h
    | some ψ =>
      rw [e1] at h
      obtain ⟨m1, h1, rfl⟩ := bnd_of el e1
      obtain ⟨m', h2, h3⟩ := mapG_of (m := m1) ok h
      refine ⟨m', ?_, h3⟩
      have es : mapS os r i (some m) = some m1 := by
        unfold mapS
        simp only [eo]
        rw [if_pos en, h1]
      show mapG os rs is (mapS os r i (some m)) = _
      rw [es]; exact h2
theorem bakG_go {os : List Row} : ∀ {rs : List Row} {ch : List Nat} {b b' : Mp}, OkPr os rs ch → bakG os rs ch (some b) = some b' → goF (lk b) ((prsG os rs ch).map Prod.swap) = some (lk b')
  | _, _, b, b', .nil, h => by cases h; rfl
  | _, _, b, b', @OkPr.cons _ r o rs i is eo en el ok, h => by
    have h : bakG os rs is (bakS os r i (some b)) = some b' := h
    have es : bakS os r i (some b) = bnd b o.2 r.2 := by unfold bakS; simp only [eo]
    rw [es] at h
    cases e1 : bnd b o.2 r.2 with
    | none => rw [e1, bakG_none] at h; cases h
    | some b1 =>
      rw [e1] at h
      obtain ⟨_, g⟩ := bnd_go e1
      unfold prsG
      simp only [eo]
      rw [List.map_append, zip_sw, goF_app, g]
      exact bakG_go ok h
theorem bakG_of {os : List Row} : ∀ {rs : List Row} {ch : List Nat} {b : Mp} {φ : Fn}, OkPr os rs ch → goF (lk b) ((prsG os rs ch).map Prod.swap) = some φ → ∃ b', bakG os rs ch (some b) = some b' ∧ lk b' = φ
  | _, _, b, φ, .nil, h => ⟨b, rfl, Option.some.inj h⟩
  | _, _, b, φ, @OkPr.cons _ r o rs i is eo en el ok, h => by
    unfold prsG at h
    simp only [eo] at h
    rw [List.map_append, zip_sw, goF_app] at h
    cases e1 : goF (lk b) (o.2.zip r.2) with
    | none => rw [e1] at h; cases h
    | some ψ =>
      rw [e1] at h
      obtain ⟨b1, h1, rfl⟩ := bnd_of el.symm e1
      obtain ⟨b', h2, h3⟩ := bakG_of (b := b1) ok h
      refine ⟨b', ?_, h3⟩
      have es : bakS os r i (some b) = some b1 := by unfold bakS; simp only [eo]; exact h1
      show bakG os rs is (bakS os r i (some b)) = _
      rw [es]; exact h2
theorem OkPr.at_ {os : List Row} : ∀ {rs : List Row} {ch : List Nat}, OkPr os rs ch → rs.length = ch.length ∧ ∀ (k : Nat) r i, rs[k]? = some r → ch[k]? = some i → ∃ o, os[i]? = some o ∧ r.1 = o.1 ∧ r.2.length = o.2.length
  | _, _, .nil => ⟨rfl, fun k r i h => by cases h⟩
  | _, _, @OkPr.cons _ r o rs i is eo en el ok => by
    obtain ⟨a, b⟩ := ok.at_
    refine ⟨congrArg (· + 1) a, fun k r' i' h1 h2 => ?_⟩
    cases k with
    | zero => cases h1; cases h2; exact ⟨o, eo, en, el⟩
    | succ k => exact b k r' i' h1 h2
theorem OkPr.of {os : List Row} : ∀ {rs : List Row} {ch : List Nat}, rs.length = ch.length → (∀ (k : Nat) r i, rs[k]? = some r → ch[k]? = some i → ∃ o, os[i]? = some o ∧ r.1 = o.1 ∧ r.2.length = o.2.length) → OkPr os rs ch
  | [], [], _, _ => .nil
  | [], _ :: _, h, _ => by cases h
  | _ :: _, [], h, _ => by cases h
  | r :: rs, i :: ch, hl, h => by
    obtain ⟨o, h1, h2, h3⟩ := h 0 r i rfl rfl
    exact .cons h1 h2 h3 (OkPr.of (Nat.succ.inj hl) fun k r' i' a b => h (k + 1) r' i' a b)
/-! ### turned about -/
theorem flatMap_congrP {α β : Type} {f g : α → List β} : ∀ {l : List α}, (∀ a ∈ l, f a = g a) → l.flatMap f = l.flatMap g
  | [], _ => rfl
  | a :: l, h => by rw [List.flatMap_cons, List.flatMap_cons, h a List.mem_cons_self, flatMap_congrP fun x hx => h x (List.mem_cons_of_mem _ hx)]
def zipA (rs os : List Row) (k i : Nat) : List (Key × Key) := match rs[k]?, os[i]? with
  | some r, some o => r.2.zip o.2
  | _, _ => []
theorem prsG_fm {os : List Row} : ∀ {rs : List Row} {ch : List Nat}, rs.length = ch.length → prsG os rs ch = (List.range rs.length).flatMap fun k => zipA rs os k (ch.getD k 0)
  | [], [], _ => rfl
  | [], _ :: _, h => by cases h
  | _ :: _, [], h => by cases h
  | r :: rs, i :: ch, h => by
    have ih := prsG_fm (os := os) (Nat.succ.inj h)
    rw [List.length_cons, List.range_succ_eq_map, List.flatMap_cons, List.flatMap_map]
    unfold prsG
    rw [ih]
    congr 1
    show _ = zipA (r :: rs) os 0 i
    unfold zipA
    cases os[i]? <;> rfl
theorem zipA_sw (rs os : List Row) (k i : Nat) : (zipA rs os k i).map Prod.swap = zipA os rs i k := by
  unfold zipA
  cases rs[k]? <;> cases os[i]? <;> first | rfl | exact zip_sw _ _
theorem nodup_permP {α : Type} [DecidableEq α] {a b : List α} (ha : a.Nodup) (hb : b.Nodup) (h : ∀ x, x ∈ a ↔ x ∈ b) : a.Perm b := by
  rw [List.perm_iff_count]
  intro x
  by_cases z : x ∈ a
  · rw [List.Nodup.count ha, List.Nodup.count hb, if_pos z, if_pos ((h x).mp z)]
  · rw [List.Nodup.count ha, List.Nodup.count hb, if_neg z, if_neg (fun y => z ((h x).mpr y))]
theorem ch_all {n : Nat} {ch : List Nat} (hl : ch.length = n) (nd : ch.Nodup) (lt : ∀ i ∈ ch, i < n) {j : Nat} (hj : j < n) : j ∈ ch := by
  by_cases z : j ∈ ch
  · exact z
  · have := List.Nodup.length_le_of_subset (l₂ := List.range n) (List.nodup_cons.mpr ⟨z, nd⟩) (fun x hx => by
      rcases List.mem_cons.mp hx with rfl | hx
      · exact List.mem_range.mpr hj
      · exact List.mem_range.mpr (lt x hx))
    rw [List.length_cons, List.length_range] at this
    omega
theorem ch_perm {n : Nat} {ch : List Nat} (hl : ch.length = n) (nd : ch.Nodup) (lt : ∀ i ∈ ch, i < n) : ch.Perm (List.range n) :=
  nodup_permP nd List.nodup_range fun x => ⟨fun h => List.mem_range.mpr (lt x h), fun h => ch_all hl nd lt (List.mem_range.mp h)⟩
def invC (n : Nat) (ch : List Nat) : List Nat := (List.range n).map fun j => ch.idxOf j
theorem invC_at {n j : Nat} {ch : List Nat} (h : j < n) : (invC n ch)[j]? = some (ch.idxOf j) := by
  unfold invC
  rw [List.getElem?_map, List.getElem?_range h]; rfl
theorem invC_len (n : Nat) (ch : List Nat) : (invC n ch).length = n := by unfold invC; rw [List.length_map, List.length_range]
theorem idx_at {α : Type} [BEq α] [LawfulBEq α] {ch : List α} {j : α} (h : j ∈ ch) : ch[ch.idxOf j]? = some j := by
  have := List.idxOf_lt_length_of_mem h
  rw [List.getElem?_eq_getElem this, List.getElem_idxOf this]
theorem at_idx {ch : List Nat} (nd : ch.Nodup) {k i : Nat} (h : ch[k]? = some i) : ch.idxOf i = k := by
  obtain ⟨h1, rfl⟩ := List.getElem?_eq_some_iff.mp h
  exact nd.idxOf_getElem k h1
theorem invC_facts {n : Nat} {ch : List Nat} (hl : ch.length = n) (nd : ch.Nodup) (lt : ∀ i ∈ ch, i < n) : (invC n ch).Nodup ∧ ∀ i ∈ invC n ch, i < n := by
  refine ⟨?_, fun i hi => ?_⟩
  · unfold invC
    refine List.pairwise_map.mpr (List.nodup_range.imp_of_mem fun {a b} ha hb hne e => hne ?_)
    have h1 := idx_at (ch_all hl nd lt (List.mem_range.mp ha))
    have h2 := idx_at (ch_all hl nd lt (List.mem_range.mp hb))
    rw [e, h2] at h1
    exact (Option.some.inj h1).symm
  · unfold invC at hi
    obtain ⟨j, hj, rfl⟩ := List.mem_map.mp hi
    have := List.idxOf_lt_length_of_mem (ch_all hl nd lt (List.mem_range.mp hj))
    omega
theorem OkPr.inv {os rs : List Row} {ch : List Nat} (h : OkPr os rs ch) (hn : rs.length = os.length) (nd : ch.Nodup) : OkPr rs os (invC os.length ch) := by
  obtain ⟨hl, ha⟩ := h.at_
  have lt : ∀ i ∈ ch, i < os.length := fun i hi => by
    obtain ⟨k, hk⟩ := List.mem_iff_getElem?.mp hi
    have := (List.getElem?_eq_some_iff.mp hk).1
    obtain ⟨o, ho, _⟩ := ha k rs[k] i (List.getElem?_eq_getElem (by omega)) hk
    exact (List.getElem?_eq_some_iff.mp ho).1
  refine OkPr.of (by rw [invC_len]) fun j o k h1 h2 => ?_
  have hj := (List.getElem?_eq_some_iff.mp h1).1
  rw [invC_at hj] at h2
  cases h2
  have hm := ch_all (n := os.length) (by omega) nd lt hj
  have hi := List.idxOf_lt_length_of_mem hm
  obtain ⟨o', e1, e2, e3⟩ := ha _ rs[ch.idxOf j] j (List.getElem?_eq_getElem (by omega)) (idx_at hm)
  rw [h1] at e1
  cases e1
  exact ⟨_, List.getElem?_eq_getElem (by omega), e2.symm, e3.symm⟩
theorem prs_inv {os rs : List Row} {ch : List Nat} (hl : ch.length = rs.length) (hn : rs.length = os.length) (nd : ch.Nodup) (lt : ∀ i ∈ ch, i < os.length) : (prsG rs os (invC os.length ch)).Perm ((prsG os rs ch).map Prod.swap) := by
  rw [prsG_fm (by rw [invC_len]), prsG_fm hl.symm, List.map_flatMap]
  have e1 : ((List.range rs.length).flatMap fun k => (zipA rs os k (ch.getD k 0)).map Prod.swap) = ch.flatMap fun i => zipA os rs i (ch.idxOf i) := by
    have ec : ch = (List.range rs.length).map fun k => ch.getD k 0 := by
      refine List.ext_getElem (by rw [List.length_map, List.length_range, hl]) fun k h1 h2 => ?_
      rw [List.getElem_map, List.getElem_range, List.getD_eq_getElem?_getD, List.getElem?_eq_getElem h1]; rfl
    conv => rhs; rw [ec]
    rw [List.flatMap_map]
    refine flatMap_congrP fun k hk => ?_
    have hk := List.mem_range.mp hk
    rw [zipA_sw, ← ec]
    have : ch.idxOf (ch.getD k 0) = k := at_idx nd (by rw [List.getD_eq_getElem?_getD, List.getElem?_eq_getElem (by omega)]; rfl)
    rw [this]
  rw [e1]
  have p := (ch_perm (n := os.length) (by omega) nd lt).flatMap_right fun i => zipA os rs i (ch.idxOf i)
  refine List.Perm.trans ?_ p.symm
  refine List.Perm.of_eq (flatMap_congrP fun j hj => ?_)
  have hj := List.mem_range.mp hj
  rw [List.getD_eq_getElem?_getD, invC_at hj]; rfl
end Fm

namespace Fm
open PySem PySem.Spec PyProof.Rows L2
/-! ### pairings: both ways round, and of the same but for names -/
abbrev fn0 : Fn := fun _ => none
theorem lk_nil : lk [] = fn0 := rfl
theorem half_go {os rs : List Row} {g g' : List Key} {ch : List Nat} {m b : Mp} (hl : rs.length = ch.length) (h1 : mapG os rs ch (bnd [] g g') = some m) (h2 : bakG os rs ch (bnd [] g' g) = some b) :
    OkPr os rs ch ∧ g.length = g'.length ∧ goF fn0 (g.zip g' ++ prsG os rs ch) = some (lk m) ∧ goF fn0 ((g.zip g' ++ prsG os rs ch).map Prod.swap) = some (lk b) := by
  cases e1 : bnd [] g g' with
  | none => rw [e1, mapG_none] at h1; cases h1
  | some m0 =>
    cases e2 : bnd [] g' g with
    | none => rw [e2, bakG_none] at h2; cases h2
    | some b0 =>
      rw [e1] at h1
      rw [e2] at h2
      obtain ⟨ok, g1⟩ := mapG_go hl h1
      have g2 := bakG_go ok h2
      obtain ⟨l1, f1⟩ := bnd_go e1
      obtain ⟨_, f2⟩ := bnd_go e2
      rw [lk_nil] at f1 f2
      refine ⟨ok, l1, by rw [goF_app, f1]; exact g1, ?_⟩
      rw [List.map_append, zip_sw, goF_app, f2]; exact g2
theorem half_of {os rs : List Row} {g g' : List Key} {ch : List Nat} {φ ψ : Fn} (ok : OkPr os rs ch) (lg : g.length = g'.length) (h1 : goF fn0 (g.zip g' ++ prsG os rs ch) = some φ) (h2 : goF fn0 ((g.zip g' ++ prsG os rs ch).map Prod.swap) = some ψ) :
    ∃ m b, mapG os rs ch (bnd [] g g') = some m ∧ bakG os rs ch (bnd [] g' g) = some b ∧ lk m = φ ∧ lk b = ψ := by
  rw [goF_app] at h1
  rw [List.map_append, zip_sw, goF_app] at h2
  cases e1 : goF fn0 (g.zip g') with
  | none => rw [e1] at h1; cases h1
  | some χ =>
    cases e2 : goF fn0 (g'.zip g) with
    | none => rw [e2] at h2; cases h2
    | some ξ =>
      rw [e1] at h1
      rw [e2] at h2
      obtain ⟨m0, a1, rfl⟩ := bnd_of (m := []) lg e1
      obtain ⟨b0, a2, rfl⟩ := bnd_of (m := []) lg.symm e2
      obtain ⟨m, c1, d1⟩ := mapG_of ok h1
      obtain ⟨b, c2, d2⟩ := bakG_of ok h2
      exact ⟨m, b, by rw [a1]; exact c1, by rw [a2]; exact c2, d1, d2⟩
theorem half_inv {os rs : List Row} {g g' : List Key} {ch : List Nat} {m b : Mp} (hl : ch.length = rs.length) (hn : rs.length = os.length) (nd : ch.Nodup) (lt : ∀ i ∈ ch, i < os.length) (h1 : mapG os rs ch (bnd [] g g') = some m) (h2 : bakG os rs ch (bnd [] g' g) = some b) :
    ∃ m2 b2, mapG rs os (invC os.length ch) (bnd [] g' g) = some m2 ∧ bakG rs os (invC os.length ch) (bnd [] g g') = some b2 ∧ lk m2 = lk b ∧ lk b2 = lk m := by
  obtain ⟨ok, lg, f1, f2⟩ := half_go hl.symm h1 h2
  have pp := prs_inv hl hn nd lt
  have p1 : (g'.zip g ++ prsG rs os (invC os.length ch)).Perm ((g.zip g' ++ prsG os rs ch).map Prod.swap) := by
    rw [List.map_append, zip_sw]
    exact pp.append_left _
  have p2 : ((g'.zip g ++ prsG rs os (invC os.length ch)).map Prod.swap).Perm (g.zip g' ++ prsG os rs ch) := by
    have := p1.map Prod.swap
    rw [List.map_map] at this
    have e : (Prod.swap ∘ Prod.swap : Key × Key → Key × Key) = id := by funext p; rfl
    rw [e, List.map_id] at this
    exact this
  exact half_of (ok.inv hn nd) lg.symm (by rw [goF_perm p1]; exact f2) (by rw [goF_perm p2]; exact f1)
/-- the law's own way to look at a map back -/
theorem half_back {os rs : List Row} {g g' : List Key} {ch : List Nat} {m m2 : Mp} (hl : ch.length = rs.length) (hn : rs.length = os.length) (nd : ch.Nodup) (lt : ∀ i ∈ ch, i < os.length) (h1 : mapG os rs ch (bnd [] g g') = some m) (h2 : mapG rs os (invC os.length ch) (bnd [] g' g) = some m2) : ∃ b, bakG os rs ch (bnd [] g' g) = some b := by
  cases e1 : bnd [] g g' with
  | none => rw [e1, mapG_none] at h1; cases h1
  | some m0 =>
    cases e2 : bnd [] g' g with
    | none => rw [e2, mapG_none] at h2; cases h2
    | some b0 =>
      rw [e1] at h1
      rw [e2] at h2
      obtain ⟨ok, g1⟩ := mapG_go hl.symm h1
      obtain ⟨_, g2⟩ := mapG_go (by rw [invC_len]) h2
      obtain ⟨lg, f2⟩ := bnd_go e2
      rw [goF_perm (prs_inv hl hn nd lt)] at g2
      obtain ⟨b, hb, _⟩ := bakG_of ok g2
      exact ⟨b, hb⟩
theorem go_int : ∀ (l : List (Key × Key)) (φ ψ : Fn) (v : Int) (t : Key), goF φ l = some ψ → (Sum.inl v, t) ∈ l → t = .inl v
  | (k, t') :: l, φ, ψ, v, t, h, hm => by
    have h0 : (stepF φ (k, t')).bind (fun ψ => goF ψ l) = some ψ := h
    cases hs : stepF φ (k, t') with
    | none => rw [hs] at h0; cases h0
    | some χ =>
      rw [hs] at h0
      rcases List.mem_cons.mp hm with e | hm
      · cases e
        have hs : (if Sum.inl v = t' then some φ else none) = some χ := hs
        split at hs
        · rename_i e; exact e.symm
        · cases hs
      · exact go_int l χ ψ v t h0 hm
theorem OkPr.pair {os : List Row} {k : Key} : ∀ {rs : List Row} {ch : List Nat}, OkPr os rs ch → (∃ r ∈ rs, k ∈ r.2) → ∃ y, (k, y) ∈ prsG os rs ch
  | _, _, .nil, ⟨r, h, _⟩ => nomatch h
  | _, _, @OkPr.cons _ r o rs i is eo en el ok, ⟨q, hq, hk⟩ => by
    unfold prsG
    simp only [eo]
    rcases List.mem_cons.mp hq with rfl | hq
    · obtain ⟨j, hj, e⟩ := List.getElem_of_mem hk
      refine ⟨o.2[j]'(by omega), List.mem_append_left _ ?_⟩
      rw [← e]
      refine List.mem_of_getElem? (i := j) ?_
      rw [List.getElem?_eq_getElem (by rw [List.length_zip]; omega), List.getElem_zip]
    · obtain ⟨y, hy⟩ := ok.pair ⟨q, hq, hk⟩
      exact ⟨y, List.mem_append_right _ hy⟩
theorem look_str {os rs : List Row} {g g' : List Key} {ch : List Nat} {m b : Mp} (hl : rs.length = ch.length) (h1 : mapG os rs ch (bnd [] g g') = some m) (h2 : bakG os rs ch (bnd [] g' g) = some b) {s : Str} (hs : ∃ r ∈ rs, Sum.inr s ∈ r.2) : ∃ t, look m s = some (.inr t) ∧ look b t = some (.inr s) := by
  obtain ⟨ok, lg, f1, f2⟩ := half_go hl h1 h2
  obtain ⟨y, hy⟩ := ok.pair hs
  have hm : (Sum.inr s, y) ∈ g.zip g' ++ prsG os rs ch := List.mem_append_right _ hy
  have a1 := go_bound _ _ _ s y f1 hm
  have hm2 : (y, Sum.inr s) ∈ (g.zip g' ++ prsG os rs ch).map Prod.swap := List.mem_map.mpr ⟨_, hm, rfl⟩
  cases y with
  | inl v => cases go_int _ _ _ v _ f2 hm2
  | inr t => exact ⟨t, a1, go_bound _ _ _ t _ f2 hm2⟩
def PwIn (pw : List (Str × Int)) (rs : List Row) : Prop := ∀ p ∈ pw, ∃ r ∈ rs, Sum.inr p.1 ∈ r.2
theorem lkS_of {m : Mp} {s t : Str} (h : look m s = some (.inr t)) : lkS m s = t := by unfold lkS; rw [h]
theorem lkS_lk {m m2 : Mp} (h : lk m = lk m2) (s : Str) : lkS m s = lkS m2 s := by
  have : look m s = look m2 s := congrFun h s
  unfold lkS; rw [this]
theorem prg_sym {T U : Pat} {ch : List Nat} (hp : PwIn T.pws T.rows) (hs : ∃ X, T.pws = srt X) (h : Prg T U ch) : Prg U T (invC U.rows.length ch) := by
  obtain ⟨hn, hl, nd, lt, m, b, g1, g2, g3⟩ := h
  obtain ⟨m2, b2, e1, e2, e3, e4⟩ := half_inv hl hn nd lt g1 g2
  obtain ⟨i1, i2⟩ := invC_facts (n := U.rows.length) (by omega) nd lt
  refine ⟨hn.symm, by rw [invC_len], i1, fun i hi => by have := i2 i hi; omega, m2, b2, e1, e2, ?_⟩
  have ps : (sentPw m2 U.pws).Perm T.pws := by
    have p1 : (sentPw m2 U.pws).Perm (sentPw m2 (sentPw m T.pws)) := by
      rw [← g3]
      exact (srt_perm _).map _
    refine p1.trans (List.Perm.of_eq ?_)
    unfold sentPw
    rw [List.map_map]
    refine (List.map_congr_left fun p hp' => ?_).trans (List.map_id _)
    obtain ⟨t, a1, a2⟩ := look_str hl.symm g1 g2 (hp p hp')
    show (lkS m2 (lkS m p.1), p.2) = p
    rw [lkS_lk e3, lkS_of a1, lkS_of a2]
  obtain ⟨X, hX⟩ := hs
  rw [srt_eq ps, hX, srt_eq (srt_perm X)]
/-! ### the same but for names is paired -/
theorem perm_ix {ps qs : List Row} (h : ps.Perm qs) : ∃ ch : List Nat, ch.Perm (List.range qs.length) ∧ (ch.map fun i => qs[i]?) = ps.map some := by
  induction h with
  | nil => exact ⟨[], .refl _, rfl⟩
  | cons x h ih =>
    obtain ⟨ch, p, e⟩ := ih
    refine ⟨0 :: ch.map (· + 1), ?_, ?_⟩
    · rw [List.length_cons, List.range_succ_eq_map]
      exact (p.map _).cons _
    · rw [List.map_cons, List.map_map, List.map_cons, ← e]; rfl
  | swap x y l =>
    refine ⟨1 :: 0 :: (List.range l.length).map (· + 2), ?_, ?_⟩
    · rw [List.length_cons, List.length_cons, List.range_succ_eq_map, List.range_succ_eq_map, List.map_cons, List.map_map]
      exact .swap _ _ _
    · rw [List.map_cons, List.map_cons, List.map_map, List.map_cons, List.map_cons]
      show some y :: some x :: _ = _
      congr 2
      refine List.ext_getElem (by simp) fun k h1 h2 => ?_
      have hk : k < l.length := by simpa using h2
      rw [List.getElem_map, List.getElem_range, List.getElem_map]
      show l[k]? = _
      rw [List.getElem?_eq_getElem hk]
  | trans h1 h2 i1 i2 =>
    rename_i l1 l2 l3
    obtain ⟨c1, p1, e1⟩ := i1
    obtain ⟨c2, p2, e2⟩ := i2
    have n2 : c2.length = l2.length := by have := congrArg List.length e2; rwa [List.length_map, List.length_map] at this
    refine ⟨c1.map fun i => c2.getD i 0, ?_, ?_⟩
    · refine ((p1.map _).trans (List.Perm.of_eq ?_)).trans p2
      refine List.ext_getElem (by rw [List.length_map, List.length_range, n2]) fun k a b => ?_
      rw [List.getElem_map, List.getElem_range, List.getD_eq_getElem?_getD, List.getElem?_eq_getElem b]; rfl
    · rw [List.map_map, ← e1]
      refine List.map_congr_left fun i hi => ?_
      have hi := List.mem_range.mp (p1.mem_iff.mp hi)
      have := congrArg (fun l : List (Option Row) => l[i]?) e2
      simp only [List.getElem?_map] at this
      rw [List.getElem?_eq_getElem (show i < c2.length by omega), List.getElem?_eq_getElem hi] at this
      show l3[c2.getD i 0]? = l2[i]?
      rw [List.getD_eq_getElem?_getD, List.getElem?_eq_getElem (show i < c2.length by omega), List.getElem?_eq_getElem hi]
      exact Option.some.inj this
def sendN (N N' : List Str) (t : Str) : Key := match N.find? (fun s => decide (ltr (N.idxOf s) = t)) with
  | some s => ren N' (.inr s)
  | none => .inl 0
theorem sendN_at {N N' : List Str} {s : Str} (h : s ∈ N) : sendN N N' (ltr (N.idxOf s)) = ren N' (.inr s) := by
  unfold sendN
  cases e : N.find? (fun u => decide (ltr (N.idxOf u) = ltr (N.idxOf s))) with
  | none =>
    have := List.find?_eq_none.mp e s h
    simp at this
  | some u =>
    have h1 := List.find?_some e
    have h2 := List.mem_of_find?_eq_some e
    have h3 := ltr_inj (of_decide_eq_true h1)
    have a := idx_at h2
    rw [h3, idx_at h] at a
    rw [Option.some.inj a]
def Sends (Φ : Str → Key) (p : Key × Key) : Prop := match p.1 with
  | .inl i => p.2 = .inl i
  | .inr s => Φ s = p.2
theorem go_fun {Φ : Str → Key} : ∀ {l : List (Key × Key)} {φ : Fn}, (∀ p ∈ l, Sends Φ p) → (∀ s v, φ s = some v → Φ s = v) → ∃ ψ, goF φ l = some ψ ∧ ∀ s v, ψ s = some v → Φ s = v
  | [], φ, _, h => ⟨φ, rfl, h⟩
  | (k, t) :: l, φ, hl, h => by
    obtain ⟨χ, hs, hχ⟩ : ∃ χ, stepF φ (k, t) = some χ ∧ ∀ s v, χ s = some v → Φ s = v := by
      have hp := hl _ List.mem_cons_self
      cases k with
      | inl i =>
        have hp : t = .inl i := hp
        exact ⟨φ, by show (if Sum.inl i = t then some φ else none) = _; rw [if_pos hp.symm], h⟩
      | inr s =>
        have hp : Φ s = t := hp
        cases e : φ s with
        | some w =>
          refine ⟨φ, ?_, h⟩
          show (match φ s with | some w => if w = t then some φ else none | none => some (upF φ s t)) = _
          rw [e]
          exact if_pos (by rw [← h s w e, hp])
        | none =>
          refine ⟨upF φ s t, ?_, fun u v hv => ?_⟩
          · show (match φ s with | some w => if w = t then some φ else none | none => some (upF φ s t)) = _
            rw [e]
          · by_cases z : u = s
            · subst z
              rw [upF_same] at hv
              rw [hp]; exact Option.some.inj hv
            · rw [upF_ne z] at hv
              exact h u v hv
    obtain ⟨ψ, g, gψ⟩ := go_fun (l := l) (fun p hp => hl p (List.mem_cons_of_mem _ hp)) hχ
    refine ⟨ψ, ?_, gψ⟩
    show (stepF φ (k, t)).bind (fun ψ => goF ψ l) = _
    rw [hs]; exact g
theorem sends_ren {N N' : List Str} {k : Key} (h : ∀ s, k = .inr s → s ∈ N) : Sends (sendN N N') (ren N k, ren N' k) := by
  cases k with
  | inl i => exact rfl
  | inr s =>
    have hs := h s rfl
    rw [ren_inr, if_pos hs]
    exact sendN_at hs
theorem zip_map2 (f f' : Key → Key) : ∀ l : List Key, (l.map f).zip (l.map f') = l.map fun k => (f k, f' k)
  | [] => rfl
  | k :: l => by
    show (f k, f' k) :: (l.map f).zip (l.map f') = (f k, f' k) :: l.map _
    rw [zip_map2 f f' l]
theorem prg_perm {ps qs : List Row} {g : List Key} {pw : List (Str × Int)} (h : ps.Perm qs) (hg : ∀ s, Sum.inr s ∈ g → s ∈ namesP ps) (hw : ∀ p ∈ pw, p.1 ∈ namesP ps) : ∃ ch, Prg (canP ps g pw) (canP qs g pw) ch := by
  obtain ⟨ch, pm, e⟩ := perm_ix h
  have nm : ∀ s, s ∈ namesP ps ↔ s ∈ namesP qs := fun s => ⟨fun hs => by
    obtain ⟨r, hr, hk⟩ := names_back hs
    exact foldR_in qs [] s r (h.mem_iff.mp hr) hk, fun hs => by
    obtain ⟨r, hr, hk⟩ := names_back hs
    exact foldR_in ps [] s r (h.mem_iff.mpr hr) hk⟩
  generalize eN : namesP ps = N at *
  generalize eN' : namesP qs = N' at *
  have hlen : ch.length = ps.length := by have := congrArg List.length e; rwa [List.length_map, List.length_map] at this
  have hat : ∀ (k i : Nat), ch[k]? = some i → qs[i]? = ps[k]? := fun k i hk => by
    have := congrArg (fun l : List (Option Row) => l[k]?) e
    simp only [List.getElem?_map, hk, Option.map_some] at this
    cases hp : ps[k]? with
    | none => rw [hp] at this; cases this
    | some r => rw [hp] at this; exact Option.some.inj this
  have eT : (canP ps g pw) = ⟨ps.map (renR N), g.map (ren N), srt (pw.map (nmPw N))⟩ := by unfold canP; rw [eN]
  have eU : (canP qs g pw) = ⟨qs.map (renR N'), g.map (ren N'), srt (pw.map (nmPw N'))⟩ := by unfold canP; rw [eN']
  rw [eT, eU]
  have ok : OkPr (qs.map (renR N')) (ps.map (renR N)) ch := OkPr.of (by rw [List.length_map, hlen]) fun k r i h1 h2 => by
    rw [List.getElem?_map] at h1
    cases hp : ps[k]? with
    | none => rw [hp] at h1; cases h1
    | some r0 =>
      rw [hp] at h1
      cases h1
      refine ⟨renR N' r0, by rw [List.getElem?_map, hat k i h2, hp]; rfl, rfl, ?_⟩
      show (r0.2.map _).length = (r0.2.map _).length
      rw [List.length_map, List.length_map]
  have prs : ∀ p ∈ prsG (qs.map (renR N')) (ps.map (renR N)) ch, ∃ k, p = (ren N k, ren N' k) ∧ ∀ s, k = .inr s → s ∈ N := by
    rw [prsG_fm (by rw [List.length_map, hlen])]
    intro p hp
    obtain ⟨k, hk, hp⟩ := List.mem_flatMap.mp hp
    have hk := List.mem_range.mp hk
    rw [List.length_map] at hk
    unfold zipA at hp
    have hc : ch[k]? = some (ch.getD k 0) := by rw [List.getD_eq_getElem?_getD, List.getElem?_eq_getElem (by omega)]; rfl
    rw [List.getElem?_map, List.getElem?_map, hat k _ hc, List.getElem?_eq_getElem hk] at hp
    have hp : p ∈ (ps[k].2.map (ren N)).zip (ps[k].2.map (ren N')) := hp
    rw [zip_map2] at hp
    obtain ⟨x, hx, rfl⟩ := List.mem_map.mp hp
    exact ⟨x, rfl, fun s es => by rw [← eN]; exact foldR_in ps [] s _ (List.getElem_mem hk) (es ▸ hx)⟩
  have all : ∀ p ∈ (g.map (ren N)).zip (g.map (ren N')) ++ prsG (qs.map (renR N')) (ps.map (renR N)) ch, ∃ k, p = (ren N k, ren N' k) ∧ ∀ s, k = .inr s → s ∈ N := fun p hp => by
    rcases List.mem_append.mp hp with hp | hp
    · rw [zip_map2] at hp
      obtain ⟨x, hx, rfl⟩ := List.mem_map.mp hp
      exact ⟨x, rfl, fun s es => hg s (es ▸ hx)⟩
    · exact prs p hp
  obtain ⟨φ, f1, f1'⟩ := go_fun (Φ := sendN N N') (φ := fn0) (l := (g.map (ren N)).zip (g.map (ren N')) ++ prsG (qs.map (renR N')) (ps.map (renR N)) ch) (fun p hp => by
    obtain ⟨k, rfl, hk⟩ := all p hp
    exact sends_ren hk) (fun s v h => by cases h)
  obtain ⟨ψ, f2, f2'⟩ := go_fun (Φ := sendN N' N) (φ := fn0) (l := ((g.map (ren N)).zip (g.map (ren N')) ++ prsG (qs.map (renR N')) (ps.map (renR N)) ch).map Prod.swap) (fun p hp => by
    obtain ⟨p0, hp0, rfl⟩ := List.mem_map.mp hp
    obtain ⟨k, rfl, hk⟩ := all p0 hp0
    exact sends_ren fun s es => (nm s).mp (hk s es)) (fun s v h => by cases h)
  obtain ⟨m, b, a1, a2, rfl, rfl⟩ := half_of ok (by rw [List.length_map, List.length_map]) f1 f2
  refine ⟨ch, by show (ps.map _).length = (qs.map _).length; rw [List.length_map, List.length_map]; exact h.length_eq, by show _ = (ps.map _).length; rw [List.length_map, hlen], pm.nodup_iff.mpr List.nodup_range, fun i hi => ?_, m, b, a1, a2, ?_⟩
  · show i < (qs.map _).length
    rw [List.length_map]
    exact List.mem_range.mp (pm.mem_iff.mp hi)
  · show srt (sentPw m (srt (pw.map (nmPw N)))) = srt (pw.map (nmPw N'))
    have p1 : (sentPw m (srt (pw.map (nmPw N)))).Perm (sentPw m (pw.map (nmPw N))) := (srt_perm _).map _
    rw [srt_eq p1]
    congr 1
    unfold sentPw
    rw [List.map_map]
    refine List.map_congr_left fun p hp => ?_
    have hN := hw p hp
    show (lkS m (ltr (N.idxOf p.1)), p.2) = (ltr (N'.idxOf p.1), p.2)
    congr 1
    have hr : ∃ r ∈ ps.map (renR N), Sum.inr (ltr (N.idxOf p.1)) ∈ r.2 := by
      have hN0 := hN
      rw [← eN] at hN0
      obtain ⟨r, hr, hk⟩ := names_back hN0
      refine ⟨renR N r, List.mem_map.mpr ⟨r, hr, rfl⟩, List.mem_map.mpr ⟨_, hk, ?_⟩⟩
      rw [ren_inr, if_pos hN]
    obtain ⟨t, b1, b2⟩ := look_str (by rw [List.length_map, hlen]) a1 a2 hr
    have := f1' (ltr (N.idxOf p.1)) _ b1
    rw [sendN_at hN, ren_inr, if_pos ((nm _).mp hN)] at this
    rw [lkS_of b1]
    exact (Sum.inr.inj this).symm
end Fm

namespace Fm
open PySem PySem.Spec PyProof.Rows L2
section
variable {P : Program} {w : World} {K : PySem.W.Frag} {mg : Str → Option Value} {base : Heap}
theorem ok_sent (B : Bi mg) (D : Dfn K mg "_law_sent" s__law_sent ["_law_known", "_law_symbols", "_law_targets"]) : Has P w K mg base CX0 "_law_sent" ["_law_known", "_law_symbols", "_law_targets"] 2 spBound := by
  refine D.has sc__law_sent (fun vs H Q E h => ?_) (fun f cdv A outer s H vs Q E hr h => ?_)
  · obtain ⟨D, a, b, m, ks, ts, rfl, _⟩ := h; rfl
  · obtain ⟨D', a, b, m, ks, ts, rfl, hD, lm, ha, hb, lk, kn, ky⟩ := h
    have hu := hu_of hr
    refine ⟨_, (pss_cons (ps_if (pt_cmpR op_ne (pe_callB call_len (by rfl) B.len PySem.boot_len (pa_cons (pv 1) pa_nil)) (pe_callB call_len (by rfl) B.len PySem.boot_len (pa_cons (pv 2) pa_nil)) (nomark _))
  (pss_one (ps_ret pe_non))
  pss_nil)
  (pss_cons (ps_set (i := 3) sc__law_sent.nd rfl (by first | exact Or.inl rfl | exact Or.inr rfl) (pe_callTy call_dictD (by rfl) B.dict (by decide +kernel) (pa_cons (pv 0) pa_nil)))
  (pss_cons (ps_for PassesOwn.never rfl (pi_range1 rfl B.range (pa_cons (pe_callB call_len (by rfl) B.len PySem.boot_len (pa_cons (pv 1) pa_nil)) pa_nil)) (pg_name (i := 4) sc__law_sent.nd rfl (by first | exact Or.inl rfl | exact Or.inr rfl))
  (pss_one (ps_if (pt_not (pt_val (pe_callB call_isi (by rfl) B.isinstance (by decide +kernel) (pa_cons (pe_ix (r := rIxT K) ix_tup (pv 1) (pv 4) (fun _ _ => rfl)) (pa_cons (pe_bltn (v := .ty "str") (by rfl) B.str (by decide +kernel) rfl) pa_nil)))))
  (pss_one (ps_if (pt_cmpR op_ne (pe_ix (r := rIxT K) ix_tup (pv 1) (pv 4) (fun _ _ => rfl)) (pe_ix (r := rIxT K) ix_tup (pv 2) (pv 4) (fun _ _ => rfl)) (nomark _))
  (pss_one (ps_ret pe_non))
  pss_nil))
  (pss_one (ps_if (pt_cmp (pc_din hu (pe_ix (r := rIxT K) ix_tup (pv 1) (pv 4) (fun _ _ => rfl)) (pv 3)) rfl)
  (pss_one (ps_if (pt_cmpR op_ne (pe_dget hu (pv 3) (pe_ix (r := rIxT K) ix_tup (pv 1) (pv 4) (fun _ _ => rfl)) (fun _ _ => rfl)) (pe_ix (r := rIxT K) ix_tup (pv 2) (pv 4) (fun _ _ => rfl)) (nomark _))
  (pss_one (ps_ret pe_non))
  pss_nil))
  (pss_one (ps_dput hu (pv 3) (pe_ix (r := rIxT K) ix_tup (pv 1) (pv 4) (fun _ _ => rfl)) (pe_ix (r := rIxT K) ix_tup (pv 2) (pv 4) (fun _ _ => rfl)) rfl)))))))
  (pss_one (ps_ret (pv 3)))))), ?_⟩
    refine ⟨_, rfl, _, _, rfl, .inr ⟨_, .inl (.inl ha), rfl⟩, _, rfl, _, _, rfl, .inr ⟨_, .inl (.inl hb), rfl⟩, rfl, _, rfl, ?_⟩
    refine ite2 (fun hne => ?_) (fun heq => ?_)
    · refine kn ?_ H (Kp.refl _)
      unfold bnd
      rw [if_neg]
      intro e
      rw [List.length_map, List.length_map, e] at hne
      simp at hne
    · have hl : ks.length = ts.length := by
        by_cases e : ks.length = ts.length
        · exact e
        · exfalso
          refine heq ?_
          rw [List.length_map, List.length_map]
          simp
          omega
      refine ⟨_, rfl, D', _, rfl, hD, fun W hW => ?_⟩
      have k0 : Kp [] H (upd H W (.dK (kvM m))) := Kp.new hW
      refine ⟨_, rfl, _, _, rfl, .inr ⟨_, .inl (.inl (k0.tp _ _ ha)), rfl⟩, ((ks.map kV).length : Int), rfl, by omega, by rw [List.length_map]; omega, ?_⟩
      rw [List.length_map]
      refine for_range (lo := 0) (n := (ks.length : Int).toNat) (fun i σ H' => (∃ o4, σ = [some (.ref D'), some (.ref a), some (.ref b), some (.ref W), o4]) ∧ Kp [] H H' ∧ ∃ mi, H' W = some (.dK (kvM mi)) ∧ mi.length ≤ m.length + i ∧ goB m ks ts = goB mi (ks.drop i) (ts.drop i)) ⟨⟨_, rfl⟩, k0, m, upd_same, Nat.le_refl _, rfl⟩ ?_ ?_
      · rintro i σ H2 hi ⟨⟨o4, rfl⟩, k2, mi, h2, l2, g2⟩
        have hi : i < ks.length := by omega
        obtain ⟨k1, ek⟩ : ∃ k1, ks[i]? = some k1 := ⟨_, List.getElem?_eq_getElem hi⟩
        obtain ⟨t1, et⟩ : ∃ t1, ts[i]? = some t1 := ⟨_, List.getElem?_eq_getElem (by omega)⟩
        rw [goB_drop ek et] at g2
        have ea : atI (ks.map kV) (0 + (i : Int)) = some (kV k1) := by rw [Int.zero_add]; exact atI_nat (by rw [List.getElem?_map, ek]; rfl)
        have eb : atI (ts.map kV) (0 + (i : Int)) = some (kV t1) := by rw [Int.zero_add]; exact atI_nat (by rw [List.getElem?_map, et]; rfl)
        have ha2 := k2.tp _ _ ha
        have hb2 := k2.tp _ _ hb
        have next : ∀ {H' : Hp} {m' : List (Str × Key)}, stepB mi k1 t1 = some m' → Kp [] H H' → H' W = some (.dK (kvM m')) → m'.length ≤ m.length + (i + 1) → (∃ o4, [some (V.ref D'), some (.ref a), some (.ref b), some (.ref W), some (.int (0 + (i : Int)))] = [some (V.ref D'), some (.ref a), some (.ref b), some (.ref W), o4]) ∧ Kp [] H H' ∧ ∃ mi, H' W = some (.dK (kvM mi)) ∧ mi.length ≤ m.length + (i + 1) ∧ goB m ks ts = goB mi (ks.drop (i + 1)) (ts.drop (i + 1)) := fun {H' m'} e k' h' l' => ⟨⟨_, rfl⟩, k', m', h', l', by rw [g2, e]⟩
        have stop : stepB mi k1 t1 = none → ∀ H', Kp [] H H' → Q .non H' := fun e H' k' => kn (by unfold bnd; rw [if_pos hl, g2, e]) H' k'
        refine ⟨_, rfl, _, rfl, a, _, _, kV k1, rfl, rfl, .inl (.inl ha2), ea, _, _, _, _, _, rfl, .ty _, kV_ty, kit_ty (kb_key k1), _, rfl, ?_⟩
        cases k1 with
        | inl iy =>
          refine iteT ?_
          refine ⟨_, rfl, _, rfl, a, _, _, kV (.inl iy), rfl, rfl, .inl (.inl ha2), ea, _, rfl, _, rfl, b, _, _, kV t1, rfl, rfl, .inl (.inl hb2), eb, by cases t1 <;> rfl, _, rfl, ?_⟩
          rw [kV_ne]
          by_cases e : (Sum.inl iy : Key) = t1
          · rw [decide_eq_true e]
            exact iteF (next (by unfold stepB; exact if_pos e) k2 h2 (by omega))
          · rw [decide_eq_false e]
            exact iteT (stop (by unfold stepB; exact if_neg e) _ k2)
        | inr sy =>
          refine iteF ?_
          refine ⟨_, rfl, _, rfl, a, _, _, kV (.inr sy), rfl, rfl, .inl (.inl ha2), ea, _, rfl, W, _, rfl, .inl ⟨_, .inr sy, .inl h2, rfl, rfl⟩, _, rfl, ?_⟩
          rw [kvM_val]
          cases el : look mi sy with
          | some v0 =>
            refine iteT ?_
            refine ⟨_, rfl, _, rfl, _, rfl, a, _, _, kV (.inr sy), rfl, rfl, .inl (.inl ha2), ea, W, kV v0, rfl, .inl ⟨_, .inr sy, .inl h2, rfl, by rw [kvM_val, el]; rfl⟩, _, rfl, _, rfl, b, _, _, kV t1, rfl, rfl, .inl (.inl hb2), eb, by cases v0 <;> cases t1 <;> rfl, _, rfl, ?_⟩
            rw [kV_ne]
            by_cases e : v0 = t1
            · rw [decide_eq_true e]
              exact iteF (next (by unfold stepB; simp only [el]; exact if_pos e) k2 h2 (by omega))
            · rw [decide_eq_false e]
              exact iteT (stop (by unfold stepB; simp only [el]; exact if_neg e) _ k2)
          | none =>
            refine iteF ?_
            refine ⟨_, rfl, _, rfl, b, _, _, kV t1, rfl, rfl, .inl (.inl hb2), eb, _, rfl, _, rfl, _, rfl, a, _, _, kV (.inr sy), rfl, rfl, .inl (.inl ha2), ea, W, _, rfl, .inl ⟨_, .inr sy, h2, rfl, by rw [kvM_keys]; exact Nat.lt_of_le_of_lt (show mi.length ≤ 100000 by omega) (by decide), rfl⟩, ?_⟩
            rw [look_put el]
            exact next (m' := mi ++ [(sy, t1)]) (by unfold stepB; simp only [el]) (k2.late hW) upd_same (by rw [List.length_append, List.length_singleton]; omega)
      · rintro σ H2 ⟨⟨o4, rfl⟩, k2, mi, h2, l2, g2⟩
        have e : goB mi (ks.drop (ks.length : Int).toNat) (ts.drop (ks.length : Int).toNat) = some mi := by
          rw [Int.toNat_natCast, List.drop_length]
          rfl
        rw [e] at g2
        exact ⟨_, rfl, ky mi W H2 (by unfold bnd; rw [if_pos hl]; exact g2) k2 hW h2⟩
end
end Fm

namespace Fm
open PySem PySem.Spec PyProof.Rows L2
/-! ### t.index(x) of flat values: a rule -/
def rIndexT (K : PySem.W.Frag) : V → List V → Hp → VK → Prop := fun x xs H Q => ∃ (a : Addr) (ys : List V) (y : V) (j : Nat) (z : V), x = V.ref a ∧ xs = [y] ∧ SqT K H a ys ∧ flatV y = true ∧ ys.all flatV = true ∧ ys[j]? = some z ∧ eqV z y = true ∧
  (∀ (m : Nat) (z' : V), m < j → ys[m]? = some z' → eqV z' y = false) ∧ Q (.int (j : Nat)) H
section
variable {X : Cx}
theorem mt_indexT : MtR X "tuple.index" (rIndexT X.K) := by
  intro pins s σ H x xs v us Q I rx rxs h
  obtain ⟨a, ys, y, j, z, rfl, rfl, hs, fy, fys, hz, hzj, hno, q⟩ := h
  cases rx
  cases rxs with
  | cons ry rt =>
    rename_i uy ut
    cases rt
    obtain ⟨its, rv, pl, hlen⟩ := I.tuple hs
    obtain ⟨⟨cls, dd, data, sl⟩, ho, hc, hdn, hd⟩ := pl
    simp only at hc hd
    subst hc hd
    obtain ⟨u, hu, ru⟩ := rv.get hz
    obtain ⟨hjl, hje⟩ := List.getElem?_eq_some_iff.mp hu
    have hvl := rv.length
    have hj : j < its.toArray.size := by simpa using hjl
    refine call_meets PySem.F.slot_tuple_index ⟨_, ho, rfl⟩ PySem.F.entry_tuple_index (PySem.F.args_tuple_index_2 _ _)
      (TI.tuple_indexAt a its.toArray hdn dd sl uy (eqU y) j hj ?_ ?_) ⟨ho, fun u' hu' => mem_eqAt ry fy rv fys u' (by simpa using hu'), ?_⟩
    · have e1 : its.toArray[j] = u := by simpa using hje
      rw [e1, eqU_of ru (flat_at fys hz)]
      exact hzj
    · intro m hm hmj
      have hml : m < its.length := by simpa using hm
      have hmy : m < ys.length := by omega
      have hy' : ys[m]? = some ys[m] := List.getElem?_eq_getElem hmy
      obtain ⟨u2, hu2, ru2⟩ := rv.get hy'
      obtain ⟨_, hme⟩ := List.getElem?_eq_some_iff.mp hu2
      have e1 : its.toArray[m] = u2 := by simpa using hme
      rw [e1, eqU_of ru2 (flat_at fys hy')]
      exact hno m _ hmj hy'
    · exact ⟨.int (j : Nat), H, I.tok _, ⟨_, rfl⟩, q⟩
/-! ### tuples that are known to have no dict -/
def TupN (H : Hp) (p : Addr) (xs : List V) : Prop := ∃ o : Obj, o.dict = none ∧ H p = some (.frz o (.tup xs))
def tTupN (t : TA) : TE := fun σ H Q => t σ H fun xs H1 => xs.length ≤ sizeLine ∧ ∀ p o, H1 p = none → o.dict = none → Q (.ref p) (upd H1 p (.frz o (.tup xs)))
theorem pe_tupN {es : List Expr} {t : TA} {pos : Pos} {x1} (h : PA X es t) : PE X (.Tuple es x1 pos) (tTupN t) := by
  refine ⟨fun pins s σ H Q I hq => ?_⟩
  refine wpAny_Tuple_spliced (thn (h.run pos pins s σ H _ I hq) fun us s1 ⟨xs, H1, I1, r, z, q⟩ => ⟨by rw [← r.length]; exact z, ?_⟩)
  have hf : H1 s1.heap.objs.size = none := I1.hok.fresh (Nat.le_refl _)
  refine ⟨.ref s1.heap.objs.size, upd H1 s1.heap.objs.size (.frz { cls := .type "tuple", data := .seq us.toArray } (.tup xs)), I1.laid (t' := s1.toks) (fun b u e => Heap.get?_push_of_some _ e) (Nat.le_refl _) ?_, rfl, q _ _ hf rfl⟩
  exact ⟨Heap.get?_push_size _ rfl, z, us, r, ⟨_, Heap.get?_push_size _ rfl, rfl, _, rfl⟩⟩
def rCatN (K : PySem.W.Frag) : R2 := fun x y H Q => ∃ a b xs ys, x = .ref a ∧ y = .ref b ∧ SqT K H a xs ∧ SqT K H b ys ∧ xs.length + ys.length ≤ sizeLine ∧
  (xs = [] → Q (.ref b) H) ∧ ys ≠ [] ∧ (xs ≠ [] → ∀ p o, H p = none → o.dict = none → Q (.ref p) (upd H p (.frz o (.tup (xs ++ ys)))))
theorem op_catN : OpR X (binaryOp .Add) (rCatN X.K) := by
  intro pins s σ H x y v u Q I rx ry h
  obtain ⟨a, b, xs, ys, rfl, rfl, ha, hb, hz, q0, hy, q2⟩ := h
  cases rx
  cases ry
  obtain ⟨its, r1, p1, _⟩ := I.tuple ha
  obtain ⟨its2, r2, p2, _⟩ := I.tuple hb
  by_cases hx : xs = []
  · subst hx
    cases r1
    exact cat_tup0 p1 p2 ⟨.ref b, H, I, rfl, q0 rfl⟩
  · refine HT.cat_tup p1 p2 (fun z => hx (r1.nil_iff.mp z)) (fun z => (hy (r2.nil_iff.mp z)).elim) (fun z => ?_) (by rw [← r1.length, ← r2.length]; exact hz)
    refine ⟨.ref s.heap.objs.size, _, I.laid (t' := s.toks) (o := .frz { cls := .type "tuple", data := .seq (its ++ its2).toArray } (.tup (xs ++ ys))) (fun b ob q => Heap.get?_push_of_some _ q) (Nat.le_refl _) ?_, rfl, q2 hx _ _ (I.hok.fresh (Nat.le_refl _)) rfl⟩
    exact ⟨Heap.get?_push_size _ rfl, by rw [List.length_append]; exact hz, _, r1.append r2, IsTup.new _ _⟩
theorem call_tupleN : CallR X (.type "tuple") (fun xs H Q => ∃ p ys, xs = [.ref p] ∧ SqL X.K H p ys ∧ ∀ l o, H l = none → o.dict = none → Q (.ref l) (upd H l (.frz o (.tup ys)))) := by
  intro pins s σ H xs us Q I r h
  obtain ⟨p, ys, rfl, hq, q⟩ := h
  obtain ⟨u, rfl, rx⟩ := vals1 r
  cases rx
  obtain ⟨its, r', pl, hz⟩ := I.list hq
  have hlen := r'.length
  refine call_tuple_list pl.isList (fun h' kp => ?_) (by simp only [List.size_toArray] <;> omega)
  have I1 : Inv X pins σ H { s with heap := h' } := I.kept (t' := s.toks) kp
  have I2 : Inv X pins σ (upd H h'.objs.size (.frz { cls := .type "tuple", data := .seq its.toArray } (.tup ys))) { s with heap := h'.push { cls := .type "tuple", data := .seq its.toArray } } :=
    I1.laid (t' := s.toks) (fun b o e => Heap.get?_push_of_some _ e) (Nat.le_refl _) (show ObjOk X.prog X.w _ _ _ (.frz _ (.tup ys)) from ⟨Heap.get?_push_size _ rfl, hz, its, r', IsTup.new _ _⟩)
  exact ⟨.ref h'.objs.size, _, I2, rfl, q _ _ (I1.hok.fresh (Nat.le_refl _)) rfl⟩
def tBMN (r : V → List V → Hp → VK → Prop) (to : TE) (t : TA) : TE := fun σ H Q => to σ H fun x H1 => (∃ p xs, x = .ref p ∧ TupN H1 p xs) ∧ t σ H1 fun xs H2 => r x xs H2 Q
theorem pe_bmN {o e : Expr} {es : List Expr} {to : TE} {t : TA} {name : Str} {apos cpos : Pos} {id : String} {r : V → List V → Hp → VK → Prop} (pa : PlainAttrs "tuple") (slot : Slot "tuple" name id) (hty : typeOf (.builtin id) = pure (.type "method_descriptor")) (hm : MtR X id r) (ho : PE X o to) (ha : PA X (e :: es) t)
    (hbase : attributeBase o name X.env (eval o X.env) = eval o X.env := by rfl)
    (hfew : ((backTo cpos (starEach (e :: es) X.env)).all (fun x => !x.1) && (backToKw cpos (keywordEach [] X.env)).all (fun x => x.1.isSome)
      && decide ((e :: es).length + ([] : List Keyword).length + (if ([] : List Keyword).isEmpty then 0 else 1) < 30)) = true := by rfl)
    (hline : (apos.endLine == cpos.line) = true := by rfl) (hs : starEach (e :: es) X.env = (false, eval e X.env) :: starEach es X.env := by rfl) (hplain : (backTo cpos (starEach es X.env)).any (·.1) = false := by rfl) :
    PE X (.Call (.Attribute o name apos) (e :: es) [] cpos) (tBMN r to t) := by
  refine ⟨fun pins s σ H Q I h => ?_⟩
  refine wpAny_Call_method_late hbase hfew hline rfl (thn (ho.run pins s σ H _ I h) fun v s1 ⟨x, H1, I1, r1, ty, q1⟩ => ?_)
  obtain ⟨p, xs, rfl, od, hd, hp⟩ := ty
  cases r1
  obtain ⟨e0, _, its, _, it⟩ := I1.hok _ _ hp
  refine ⟨"tuple", id, pa, slot, hty, it.typeIs, fun a e => by cases e; exact ⟨od, e0, hd⟩, ?_⟩
  have hA := ha.run cpos pins s1 σ H1 _ I1 q1
  rw [hs] at hA ⊢
  refine Calls.callWith_builtin (by show (false || (backTo cpos (starEach es X.env)).any (·.1)) = false; rw [hplain] <;> rfl) (Calls.evalArgs_plain ?_)
  exact thn hA fun us s2 ⟨vs, H2, I2, r2, q2⟩ => hm pins s2 σ H2 (.ref p) vs (.ref p) us Q I2 rfl r2 q2
end
theorem TupN.sq {K : PySem.W.Frag} {H : Hp} {p : Addr} {xs : List V} (h : TupN H p xs) : SqT K H p xs := let ⟨o, _, h⟩ := h; .inl (.inr ⟨o, h⟩)
theorem TupN.kp {ms : List Addr} {H H' : Hp} {p : Addr} {xs : List V} (h : TupN H p xs) (k : Kp ms H H') (hp : p ∉ ms) : TupN H' p xs := let ⟨o, d, h⟩ := h; ⟨o, d, k.at_ _ _ h hp⟩
theorem TupN.ty {K : PySem.W.Frag} {H : Hp} {p : Addr} {xs : List V} (h : TupN H p xs) : TyX K H (.ref p) (.type "tuple") := let ⟨_, _, h⟩ := h; .fTuple h
theorem catN_in {K : PySem.W.Frag} {H : Hp} {a b : Addr} {xs ys : List V} {Q : VK} (ha : SqT K H a xs) (hb : TupN H b ys) (hl : xs.length + ys.length ≤ sizeLine) (hy : ys ≠ []) (q : ∀ r H', Kp [] H H' → TupN H' r (xs ++ ys) → Q (.ref r) H') : rCatN K (.ref a) (.ref b) H Q :=
  ⟨a, b, xs, ys, rfl, rfl, ha, hb.sq, hl, fun e => q b H (Kp.refl _) (by rw [e]; exact hb), hy, fun _ p o hp ho => q p _ (Kp.new hp) ⟨o, ho, upd_same⟩⟩
/-- a list, a tuple, or a tuple without a dict -/
def RwN (H : Hp) (p : Addr) (xs : List V) : Prop := Rd H p (.lst xs) ∨ H p = some (.tup xs) ∨ TupN H p xs
theorem RwN.kp {H H' : Hp} {p : Addr} {xs : List V} (h : RwN H p xs) (k : Kp [] H H') : RwN H' p xs := by
  rcases h with h | h | h
  · exact .inl (k.rd (fun z => nomatch z) h)
  · exact .inr (.inl (k.tp _ _ h))
  · exact .inr (.inr (h.kp k (fun z => nomatch z)))
end Fm

namespace Fm
open PySem PySem.Spec PyProof.Rows L2
/-! ### the law's own judgement of a map -/
def KnV (H : Hp) (v : V) (o : Option Mp) (n : Nat) : Prop := (o = none ∧ v = .non) ∨ ∃ (W : Addr) (m : Mp), o = some m ∧ v = .ref W ∧ H W = some (.dK (kvM m)) ∧ m.length ≤ n
theorem KnV.kp {H H' : Hp} {v : V} {o : Option Mp} {n : Nat} (h : KnV H v o n) (k : Kp [] H H') : KnV H' v o n := by
  rcases h with h | ⟨W, m, a, b, c, d⟩
  · exact .inl h
  · exact .inr ⟨W, m, a, b, k.at_ _ _ c (fun z => nomatch z), d⟩
theorem chV_at {ch : List Nat} {k i : Nat} (h : ch[k]? = some i) : (chV ch)[k]? = some (.int (i : Int)) := by unfold chV; rw [List.getElem?_map, h]; rfl
def spMapOver : Sp := fun vs H Q _ => ∃ (A B a b I : Addr) (xs ys : List V) (rs os : List Row) (g g' : List Key) (ch : List Nat), vs = [.ref A, .ref a, .ref B, .ref b, .ref I] ∧ H A = some (.tup xs) ∧ ImAll H 2 xs (rs.map dPR) ∧ H B = some (.tup ys) ∧ ImAll H 2 ys (os.map dPR) ∧ H a = some (.tup (g.map kV)) ∧ H b = some (.tup (g'.map kV)) ∧ RwN H I (chV ch) ∧
  ch.length = rs.length ∧ (∀ i ∈ ch, i < os.length) ∧ rs.length ≤ 6 ∧ os.length ≤ 6 ∧ (∀ r ∈ rs, r.2.length ≤ 4) ∧ g.length ≤ 3 ∧ ∀ v H', Kp [] H H' → KnV H' v (mapG os rs ch (bnd [] g g')) 27 → Q v H'
theorem row_at {H : Hp} {xs : List V} {rs : List Row} {i : Nat} {r : Row} (ix : ImAll H 2 xs (rs.map dPR)) (hr : rs[i]? = some r) : ∃ a b, xs[i]? = some (.ref a) ∧ H a = some (.tup [.str r.1, .ref b]) ∧ H b = some (.tup (r.2.map kV)) := by
  obtain ⟨v, hv, dv⟩ := ix.get (i := i) (x := dPR r) (by rw [List.getElem?_map, hr]; rfl)
  obtain ⟨a, b, rfl, h1, h2⟩ := Im.prow dv
  exact ⟨a, b, hv, h1, h2⟩
theorem sent_in {H : Hp} {a b : Addr} {m : Mp} {ks ts : List Key} {n : Nat} {Q : VK} {E : XK} {D : Addr} (hD : H D = some (.dK (kvM m))) (hm : m.length ≤ n) (n9 : n ≤ 900) (ha : H a = some (.tup (ks.map kV))) (hb : H b = some (.tup (ts.map kV))) (l4 : ks.length ≤ 4) (q : ∀ v H', Kp [] H H' → KnV H' v (bnd m ks ts) (n + 4) → Q v H') : spBound [.ref D, .ref a, .ref b] H Q E := by
  refine ⟨D, a, b, m, ks, ts, rfl, .inl hD, by omega, ha, hb, by omega, fun hn H1 k1 => q _ H1 k1 (.inl ⟨hn, rfl⟩), fun m' W H1 hm' k1 fW hW => q _ H1 k1 (.inr ⟨W, m', hm', rfl, hW, ?_⟩)⟩
  have := bnd_len hm'
  omega
theorem rIx_rw {K : PySem.W.Frag} {H : Hp} {I : Addr} {xs : List V} {i : Int} {v : V} {Q : VK} (h : RwN H I xs) (hv : atI xs i = some v) (q : Q v H) : rIx K (.ref I) (.int i) H Q := by
  rcases h with h | h | h
  · exact .inl ⟨I, xs, i, v, rfl, rfl, .inl h, hv, q⟩
  · exact .inr (.inl ⟨I, xs, i, v, rfl, rfl, .inl (.inl h), hv, q⟩)
  · exact .inr (.inl ⟨I, xs, i, v, rfl, rfl, h.sq, hv, q⟩)
section
variable {P : Program} {w : World} {K : PySem.W.Frag} {mg : Str → Option Value} {base : Heap}
theorem ok_map_over (B : Bi mg) (D : Dfn K mg "_law_map_over" s__law_map_over ["_law_rows", "_law_group", "_law_other_rows", "_law_other_group", "_law_indexes"]) (G_sent : Has P w K mg base CX0 "_law_sent" ["_law_known", "_law_symbols", "_law_targets"] 2 spBound) :
    Has P w K mg base CX0 "_law_map_over" ["_law_rows", "_law_group", "_law_other_rows", "_law_other_group", "_law_indexes"] 3 spMapOver := by
  refine D.has sc__law_map_over (fun vs H Q E h => ?_) (fun f cdv A outer s H vs Q E hr h => ?_)
  · obtain ⟨A, B, a, b, I, xs, ys, rs, os, g, g', ch, rfl, _⟩ := h; rfl
  · obtain ⟨Ar, Br, a, b, I, xs, ys, rs, os, g, g', ch, rfl, hA, ix, hB, iy, ha, hb, hI, lc, lt, r6, o6, r4, g3, k⟩ := h
    have hu := hu_of hr
    refine ⟨_, (pss_cons (ps_set (i := 5) sc__law_map_over.nd rfl (by first | exact Or.inl rfl | exact Or.inr rfl) (pe_has G_sent (hr.mono (by omega)) (pa_cons pe_dnewK (pa_cons (pv 1) (pa_cons (pv 3) pa_nil)))))
  (pss_cons (ps_for PassesOwn.never rfl (pi_range1 rfl B.range (pa_cons (pe_callB call_len (by rfl) B.len PySem.boot_len (pa_cons (pv 0) pa_nil)) pa_nil)) (pg_name (i := 6) sc__law_map_over.nd rfl (by first | exact Or.inl rfl | exact Or.inr rfl))
  (pss_cons (ps_if (PW.pt (pw_or (pt_cmpR op_isN (pv 5) pe_non (nomark _)) (pw_or1 (pt_cmpR op_ne (pe_ix (r := rIxT K) ix_tup (pe_ix (r := rIxT K) ix_tup (pv 0) (pv 6) (fun _ _ => rfl)) pe_int (fun _ _ => rfl)) (pe_ix (r := rIxT K) ix_tup (pe_ix (r := rIxT K) ix_tup (pv 2) (pe_ix (r := rIx K) ix_seq (pv 4) (pv 6) (fun _ _ => rfl)) (fun _ _ => rfl)) pe_int (fun _ _ => rfl)) (nomark _)))))
  (pss_one (ps_ret pe_non))
  pss_nil)
  (pss_one (ps_set (i := 5) sc__law_map_over.nd rfl (by first | exact Or.inl rfl | exact Or.inr rfl) (pe_has G_sent (hr.mono (by omega)) (pa_cons (pv 5) (pa_cons (pe_ix (r := rIxT K) ix_tup (pe_ix (r := rIxT K) ix_tup (pv 0) (pv 6) (fun _ _ => rfl)) pe_int (fun _ _ => rfl)) (pa_cons (pe_ix (r := rIxT K) ix_tup (pe_ix (r := rIxT K) ix_tup (pv 2) (pe_ix (r := rIx K) ix_seq (pv 4) (pv 6) (fun _ _ => rfl)) (fun _ _ => rfl)) pe_int (fun _ _ => rfl)) pa_nil))))))))
  (pss_one (ps_ret (pv 5))))), ?_⟩
    have lxs : xs.length = rs.length := by rw [ix.len, List.length_map]
    intro D0 hD0
    have k0 : Kp [] H (upd H D0 (.dK [])) := Kp.new hD0
    refine ⟨_, rfl, _, rfl, ?_⟩
    dsimp only [tNil, List.append]
    refine sent_in (m := []) (n := 0) upd_same (Nat.le_refl _) (by decide) (k0.tp _ _ ha) (k0.tp _ _ hb) (by omega) fun v1 H1 k1 kn1 => ?_
    have k01 := k0.trans k1
    refine ⟨_, rfl, _, _, rfl, .inr ⟨_, .inl (.inl (k01.tp _ _ hA)), rfl⟩, (xs.length : Int), rfl, by omega, by omega, ?_⟩
    refine for_range (lo := 0) (n := (xs.length : Int).toNat) (fun i σ H' => (∃ v o6, σ = [some (.ref Ar), some (.ref a), some (.ref Br), some (.ref b), some (.ref I), some v, o6] ∧ ∃ o, KnV H' v o (3 + 4 * i) ∧ mapG os rs ch (bnd [] g g') = mapG os (rs.drop i) (ch.drop i) o) ∧ Kp [] H H') ⟨⟨v1, _, rfl, bnd [] g g', ?_, rfl⟩, k01⟩ ?_ ?_
    · rcases kn1 with h | ⟨W, m, e1, e2, e3, e4⟩
      · exact .inl h
      · have := bnd_len e1
        exact .inr ⟨W, m, e1, e2, e3, by simp at this; omega⟩
    · rintro i σ H2 hi ⟨⟨v, o6', rfl, o, kn, eg⟩, k2⟩
      have hi : i < rs.length := by omega
      obtain ⟨r, er⟩ : ∃ r, rs[i]? = some r := ⟨_, List.getElem?_eq_getElem hi⟩
      obtain ⟨j, ej⟩ : ∃ j, ch[i]? = some j := ⟨_, List.getElem?_eq_getElem (by omega)⟩
      have jl := lt j (List.mem_of_getElem? ej)
      obtain ⟨o1, eo⟩ : ∃ o1, os[j]? = some o1 := ⟨_, List.getElem?_eq_getElem jl⟩
      rw [mapG_drop er ej] at eg
      rcases kn with ⟨rfl, rfl⟩ | ⟨W, m, rfl, rfl, hW, lm⟩
      · refine ⟨_, rfl, rfl, _, rfl, iteT ?_⟩
        exact k _ H2 k2 (.inl ⟨by rw [eg]; exact mapG_none _ _ _, rfl⟩)
      · refine ⟨_, rfl, rfl, _, rfl, iteF ?_⟩
        obtain ⟨a1, b1, hv1, ha1, hb1⟩ := row_at (ImAll.kp k2 ix) er
        obtain ⟨a2, b2, hv2, ha2, hb2⟩ := row_at (ImAll.kp k2 iy) eo
        have e1 : atI xs (0 + (i : Int)) = some (.ref a1) := by rw [Int.zero_add]; exact atI_nat hv1
        have e2 : atI (chV ch) (0 + (i : Int)) = some (.int (j : Int)) := by rw [Int.zero_add]; exact atI_nat (chV_at ej)
        have e3 : atI ys ((j : Nat) : Int) = some (.ref a2) := atI_nat hv2
        have hA2 := k2.tp _ _ hA
        have hB2 := k2.tp _ _ hB
        have hI2 : RwN H2 I (chV ch) := hI.kp k2
        have es : mapS os r j (some m) = if r.1 = o1.1 then bnd m r.2 o1.2 else none := by unfold mapS; simp only [eo]
        rw [es] at eg
        refine ⟨_, rfl, _, rfl, Ar, xs, _, _, rfl, rfl, .inl (.inl hA2), e1, a1, _, 0, _, rfl, rfl, .inl (.inl ha1), rfl, ?_⟩
        refine ⟨_, rfl, _, rfl, _, rfl, rIx_rw hI2 e2 ⟨Br, ys, _, _, rfl, rfl, .inl (.inl hB2), e3, a2, _, 0, _, rfl, rfl, .inl (.inl ha2), rfl, rfl, _, rfl, ?_⟩⟩
        by_cases en : r.1 = o1.1
        · rw [decide_eq_true (show V.str r.1 = V.str o1.1 by rw [en])]
          refine iteF ?_
          rw [if_pos en] at eg
          refine ⟨_, rfl, _, rfl, _, rfl, Ar, xs, _, _, rfl, rfl, .inl (.inl hA2), e1, a1, _, 1, _, rfl, rfl, .inl (.inl ha1), rfl, ?_⟩
          refine ⟨_, rfl, _, rfl, _, rfl, rIx_rw hI2 e2 ⟨Br, ys, _, _, rfl, rfl, .inl (.inl hB2), e3, a2, _, 1, _, rfl, rfl, .inl (.inl ha2), rfl, ?_⟩⟩
          dsimp only [tNil]
          refine sent_in (n := 3 + 4 * i) hW lm (by omega) hb1 hb2 (r4 r (List.mem_of_getElem? er)) fun v3 H3 k3 kn3 => ?_
          exact ⟨⟨v3, _, rfl, _, by rw [show 3 + 4 * (i + 1) = 3 + 4 * i + 4 by omega]; exact kn3, eg⟩, k2.trans k3⟩
        · rw [decide_eq_false (fun z => en (by injection z))]
          refine iteT ?_
          rw [if_neg en] at eg
          exact k _ H2 k2 (.inl ⟨by rw [eg]; exact mapG_none _ _ _, rfl⟩)
    · rintro σ H2 ⟨⟨v, o6', rfl, o, kn, eg⟩, k2⟩
      rw [Int.toNat_natCast, lxs, List.drop_length] at eg
      have eg : mapG os rs ch (bnd [] g g') = o := by rw [eg]; unfold mapG; rfl
      refine ⟨_, rfl, k v H2 k2 ?_⟩
      rw [eg]
      rcases kn with h | ⟨W, m, e1, e2, e3, e4⟩
      · exact .inl h
      · exact .inr ⟨W, m, e1, e2, e3, by omega⟩
end
end Fm

namespace Fm
open PySem PySem.Spec PyProof.Rows L2
/-! ### the search for a pairing, walked -/
theorem imPow_getV {H : Hp} {n : Nat} {xs : List V} {ps : List (Str × Int)} (h : ImAll H (n + 1) xs (ps.map dPow)) {i : Nat} {v : V} (hv : xs[i]? = some v) : ∃ t p, v = .ref t ∧ ps[i]? = some p ∧ H t = some (.tup [.str p.1, .int p.2]) := by
  obtain ⟨d, hd, iv⟩ := h.getV hv
  rw [List.getElem?_map] at hd
  cases hp : ps[i]? with
  | none => rw [hp] at hd; cases hd
  | some p =>
    rw [hp] at hd
    cases hd
    cases iv with
    | tup r l a =>
      cases a with
      | cons a1 a2 =>
        cases a2 with
        | cons b1 b2 =>
          cases b2
          cases a1
          cases b1
          exact ⟨_, p, rfl, rfl, r⟩
theorem PowAll.kpM {H H' : Hp} (k : Kp [] H H') : ∀ {xs : List V} {ps : List (Str × Int)}, PowAll H xs ps → PowAll H' xs ps
  | _, _, .nil => .nil
  | _, _, .cons ⟨t, e, h⟩ b => .cons ⟨t, e, k.tp _ _ h⟩ (b.kpM k)
def HalfAt (T U : Pat) (ch : List Nat) (m b : Mp) : Prop := mapG U.rows (T.rows.take ch.length) ch (bnd [] T.grp U.grp) = some m ∧ bakG U.rows (T.rows.take ch.length) ch (bnd [] U.grp T.grp) = some b
def PatS (T : Pat) : Prop := PatG T ∧ T.Ok
theorem PatS.pwin {T : Pat} (h : PatS T) : PwIn T.pws T.rows := fun p hp => (h.1.2.2.2.2.1 p hp).1
theorem prsG_mem {os : List Row} {x y : Key} : ∀ {rs : List Row} {ch : List Nat}, (x, y) ∈ prsG os rs ch → ∃ o ∈ os, y ∈ o.2
  | [], _, h => by unfold prsG at h; cases h
  | _ :: _, [], h => by unfold prsG at h; cases h
  | r :: rs, i :: ch, h => by
    unfold prsG at h
    rcases List.mem_append.mp h with h | h
    · cases eo : os[i]? with
      | none => simp only [eo] at h; cases h
      | some o =>
        simp only [eo] at h
        exact ⟨o, List.mem_of_getElem? eo, (List.of_mem_zip h).2⟩
    · exact prsG_mem h
theorem look_strM {os rs : List Row} {g g' : List Key} {ch : List Nat} {m b : Mp} (hl : rs.length = ch.length) (h1 : mapG os rs ch (bnd [] g g') = some m) (h2 : bakG os rs ch (bnd [] g' g) = some b) {s : Str} (hs : ∃ r ∈ rs, Sum.inr s ∈ r.2) : ∃ t, look m s = some (.inr t) ∧ ∃ o ∈ os, Sum.inr t ∈ o.2 := by
  obtain ⟨ok, lg, f1, f2⟩ := half_go hl h1 h2
  obtain ⟨y, hy⟩ := ok.pair hs
  obtain ⟨t, a, _⟩ := look_str hl h1 h2 hs
  have a1 := go_bound _ _ _ s y f1 (List.mem_append_right _ hy)
  have a2 : lk m s = some (.inr t) := a
  rw [a1] at a2
  cases a2
  exact ⟨t, a, prsG_mem hy⟩
theorem Im.tupP {H : Hp} {n : Nat} {v : V} {ds : List PyData} (h : Im H (n + 1) v (.tuple ds)) : ∃ a xs, v = .ref a ∧ H a = some (.tup xs) ∧ ImAll H n xs ds := by
  cases h with
  | tup r l a => exact ⟨_, _, rfl, r, a⟩
theorem im_key {H : Hp} {n : Nat} : ∀ {vs : List V} {ks : List Key}, ImAll H n vs (ks.map keyD) → ∀ s, Sum.inr s ∈ ks → s.length ≤ 1000000
  | _, [], _, s, h => nomatch h
  | _, k :: ks, .cons a b, s, h => by
    rcases List.mem_cons.mp h with e | h
    · cases e
      cases a with
      | str _ l => exact l
    · exact im_key b s h
theorem im_row {H : Hp} {vs : List V} {rs : List Row} (h : ImAll H 2 vs (rs.map dPR)) {r : Row} (hr : r ∈ rs) {s : Str} (hs : Sum.inr s ∈ r.2) : s.length ≤ 1000000 := by
  obtain ⟨i, hi⟩ := List.mem_iff_getElem?.mp hr
  obtain ⟨v, hv, dv⟩ := h.get (i := i) (x := dPR r) (by rw [List.getElem?_map, hi]; rfl)
  cases dv with
  | tup _ _ a =>
    cases a with
    | cons a1 a2 =>
      cases a2 with
      | cons b1 b2 =>
        cases b1 with
        | tup _ _ c => exact im_key c s hs
theorem inV_chV (i : Nat) (ch : List Nat) : inV (.int (i : Int)) (chV ch) = decide (i ∈ ch) := by
  unfold inV chV
  rw [List.any_map, Bool.eq_iff_iff, List.any_eq_true, decide_eq_true_eq]
  constructor
  · rintro ⟨x, hx, e⟩
    have e : ((x : Int) == (i : Int)) = true := e
    have : x = i := by
      have := eq_of_beq e
      omega
    exact this ▸ hx
  · intro h
    refine ⟨i, h, ?_⟩
    show ((i : Int) == (i : Int)) = true
    exact beq_self_eq_true _
theorem flat_chV (ch : List Nat) : (chV ch).all flatV = true := by
  unfold chV
  rw [List.all_eq_true]
  intro v hv
  obtain ⟨x, _, rfl⟩ := List.mem_map.mp hv
  rfl
theorem fs_firstP {α β : Type} {f : α → Option β} {x : α} {y : β} : ∀ {l : List α} {i : Nat}, (∀ o ∈ l.take i, f o = none) → l[i]? = some x → f x = some y → l.findSome? f = some y
  | a :: l, 0, _, h, e => by cases h; rw [List.findSome?_cons, e]
  | a :: l, i + 1, hn, h, e => by
    rw [List.findSome?_cons, hn a (by rw [List.take_succ_cons]; exact List.mem_cons_self)]
    exact fs_firstP (i := i) (fun o ho => hn o (by rw [List.take_succ_cons]; exact List.mem_cons_of_mem _ ho)) h e
theorem chV_snocP (ch : List Nat) (i : Nat) : chV ch ++ [V.int (i : Nat)] = chV (ch ++ [i]) := by unfold chV; rw [List.map_append]; rfl
def ChT (H : Hp) (c : Addr) (ch : List Nat) : Prop := (ch = [] ∧ H c = some (.tup [])) ∨ TupN H c (chV ch)
theorem ChT.sq {K : PySem.W.Frag} {H : Hp} {c : Addr} {ch : List Nat} (h : ChT H c ch) : SqT K H c (chV ch) := by
  rcases h with ⟨rfl, h⟩ | h
  · exact .inl (.inl h)
  · exact h.sq
theorem ChT.kp {H H' : Hp} {c : Addr} {ch : List Nat} (h : ChT H c ch) (k : Kp [] H H') : ChT H' c ch := h.imp (fun z => ⟨z.1, k.tp _ _ z.2⟩) fun z => z.kp k (fun z => nomatch z)
theorem ChT.rw {H : Hp} {c : Addr} {ch : List Nat} (h : ChT H c ch) : RwN H c (chV ch) := by
  rcases h with ⟨rfl, h⟩ | h
  · exact .inr (.inl h)
  · exact .inr (.inr h)
theorem ChT.ty {K : PySem.W.Frag} {H : Hp} {c : Addr} {ch : List Nat} (h : ChT H c ch) : TyX K H (.ref c) (.type "tuple") := by
  rcases h with ⟨rfl, h⟩ | h
  · exact .base (.tup h)
  · exact h.ty
def spPaired (C : Addr) (n : Nat) : Sp := fun vs H Q _ => ∃ (p p' c D E : Addr) (T U : Pat) (ch : List Nat) (m b : Mp), vs = [.ref p, .ref p', .ref c, .ref D, .ref E] ∧ PatAt C H p T ∧ PatAt C H p' U ∧ ChT H c ch ∧ Rd H D (.dK (kvM m)) ∧ Rd H E (.dK (kvM b)) ∧
  T.rows.length = ch.length + n ∧ PatS T ∧ PatS U ∧ HalfAt T U ch m b ∧ m.length ≤ 3 + 4 * ch.length ∧ b.length ≤ 3 + 4 * ch.length ∧
  (pairF U.rows T.pws U.pws (T.rows.drop ch.length) ch m b = none → ∀ H', Kp [] H H' → Q .non H') ∧ (∀ l q H', pairF U.rows T.pws U.pws (T.rows.drop ch.length) ch m b = some l → Kp [] H H' → ChT H' q l → Q (.ref q) H')
def spPairedB (C : Addr) : Nat → Sp
  | 0 => fun _ _ _ _ => False
  | n + 1 => spPaired C n
theorem bound_in {H : Hp} {a b : Addr} {m : Mp} {ks ts : List Key} {Q : VK} {E : XK} {D : Addr} (hD : Rd H D (.dK (kvM m))) (hm : m.length ≤ 900) (ha : H a = some (.tup (ks.map kV))) (hb : H b = some (.tup (ts.map kV))) (l4 : ks.length ≤ 4) (q : ∀ v H', Kp [] H H' → KnV H' v (bnd m ks ts) (m.length + 4) → Q v H') : spBound [.ref D, .ref a, .ref b] H Q E := by
  refine ⟨D, a, b, m, ks, ts, rfl, hD, by omega, ha, hb, by omega, fun hn H1 k1 => q _ H1 k1 (.inl ⟨hn, rfl⟩), fun m' W H1 hm' k1 fW hW => q _ H1 k1 (.inr ⟨W, m', hm', rfl, hW, ?_⟩)⟩
  have := bnd_len hm'
  omega
section
variable {P : Program} {w : World} {K : PySem.W.Frag} {mg : Str → Option Value} {base : Heap}
theorem step_paired {C : Addr} (B : BiP mg) (D : Dfn K mg "paired" s_paired ["one", "other", "chosen", "there", "back"]) (U : PatCls K mg C) (G_bound : Has P w K mg base CX0 "bound" ["known", "symbols", "targets"] 2 spBound) (n : Nat) (G_paired : Has P w K mg base CX0 "paired" ["one", "other", "chosen", "there", "back"] (n + 2) (spPairedB C n)) :
    Has P w K mg base CX0 "paired" ["one", "other", "chosen", "there", "back"] (n + 3) (spPaired C n) := by
  refine D.has sc_paired (fun vs H Q E h => ?_) (fun f cdv A outer s H vs Q E hr h => ?_)
  · obtain ⟨p, p', c, D, E', T, U', ch, m, b, rfl, _⟩ := h; rfl
  · obtain ⟨p, p', c, Dm, De, T, U', ch, m, b, rfl, hp, hp', hc, hD, hE, len, sT, sU, hh, lm, lb, kn, ky⟩ := h
    have hu := hu_of hr
    refine ⟨_, (pss_cons (ps_set (i := 5) sc_paired.nd rfl (by first | exact Or.inl rfl | exact Or.inr rfl) (pe_callB call_len (by rfl) B.len PySem.boot_len (pa_cons (pv 2) pa_nil)))
  (pss_cons (ps_if (pt_cmpR op_eq (pv 5) (pe_callB call_len (by rfl) B.len PySem.boot_len (pa_cons (pe_fld (pv 0) rfl) pa_nil)) (nomark _))
  (pss_cons (ps_set (i := 6) sc_paired.nd rfl (by first | exact Or.inl rfl | exact Or.inr rfl) (pe_callB (cr_sortedSI hr.units) (by rfl) B.sorted (by decide +kernel) (pa_cons (pe_lc (own := [("name", 10), ("power", 15)]) (g := gTup K 2 (gCons (gName 10) (gCons (gName 15) gNil))) (by rfl) sc_paired.nd (pi_tup (pe_fld (pv 0) rfl)) (blkOk_by (own := [("name", 10), ("power", 15)]) (N := N_paired) (sc := defScope s_paired) (by decide +kernel)) (fun _ _ _ _ _ => (pg_tup rfl (pgs_cons (pg_name (i := 10) sc_paired.nd rfl (by first | exact Or.inl rfl | exact Or.inr rfl)) (pgs_cons (pg_name (i := 15) sc_paired.nd rfl (by first | exact Or.inl rfl | exact Or.inr rfl)) pgs_nil)))) (fun _ _ _ _ _ => pts_nil) (fun _ _ _ _ _ => (pe_tup (pa_cons (pe_dget hu (pv 3) (pv 10) (fun _ _ => rfl)) (pa_cons (pv 15) pa_nil))))) pa_nil)))
  (pss_one (ps_ret (pe_ifExp (pt_cmpR (op_eqD hr.units) (pe_callTy call_tuple_of (by rfl) B.tuple (by decide +kernel) (pa_cons (pv 6) pa_nil)) (pe_fld (pv 1) rfl) (nomark _)) (pv 2) pe_non))))
  pss_nil)
  (pss_cons (ps_asg (pe_ix (r := rIxT K) ix_tup (pe_fld (pv 0) rfl) (pv 5) (fun _ _ => rfl)) (pg_tup rfl (pgs_cons (pg_name (i := 7) sc_paired.nd rfl (by first | exact Or.inl rfl | exact Or.inr rfl)) (pgs_cons (pg_name (i := 8) sc_paired.nd rfl (by first | exact Or.inl rfl | exact Or.inr rfl)) pgs_nil))))
  (pss_cons (ps_for PassesOwn.never rfl (pi_enumT (by rfl) B.enumerate (pa_cons (pe_fld (pv 1) rfl) pa_nil)) (pg_tup rfl (pgs_cons (pg_name (i := 9) sc_paired.nd rfl (by first | exact Or.inl rfl | exact Or.inr rfl)) (pgs_cons (pg_tup rfl (pgs_cons (pg_name (i := 10) sc_paired.nd rfl (by first | exact Or.inl rfl | exact Or.inr rfl)) (pgs_cons (pg_name (i := 11) sc_paired.nd rfl (by first | exact Or.inl rfl | exact Or.inr rfl)) pgs_nil))) pgs_nil)))
  (pss_cons (ps_if (PW.pt (pw_or (pt_cmpR op_ne (pv 10) (pv 7) (nomark _)) (pw_or1 (pt_cmpR op_in_seq (pv 9) (pv 2) (by rfl)))))
  (pss_one ps_continue)
  pss_nil)
  (pss_cons (ps_set (i := 12) sc_paired.nd rfl (by first | exact Or.inl rfl | exact Or.inr rfl) (pe_has G_bound (hr.mono (by omega)) (pa_cons (pv 3) (pa_cons (pv 8) (pa_cons (pv 11) pa_nil)))))
  (pss_cons (ps_set (i := 13) sc_paired.nd rfl (by first | exact Or.inl rfl | exact Or.inr rfl) (pe_has G_bound (hr.mono (by omega)) (pa_cons (pv 4) (pa_cons (pv 11) (pa_cons (pv 8) pa_nil)))))
  (pss_cons (ps_if (PW.pt (pw_or (pt_cmpR op_isN (pv 12) pe_non (nomark _)) (pw_or1 (pt_cmpR op_isN (pv 13) pe_non (nomark _)))))
  (pss_one ps_continue)
  pss_nil)
  (pss_cons (ps_set (i := 14) sc_paired.nd rfl (by first | exact Or.inl rfl | exact Or.inr rfl) (pe_has G_paired hr (pa_cons (pv 0) (pa_cons (pv 1) (pa_cons (pe_op op_catN (pv 2) (pe_tupN (pa_cons (pv 9) pa_nil))) (pa_cons (pv 12) (pa_cons (pv 13) pa_nil)))))))
  (pss_one (ps_if (pt_cmpR op_notN (pv 14) pe_non (nomark _))
  (pss_one (ps_ret (pv 14)))
  pss_nil))))))))
  (pss_one (ps_ret pe_non)))))), ?_⟩
    have lch : (chV ch).length = ch.length := List.length_map ..
    obtain ⟨dx, v1, v2, v3, ep, i1, i2, i3⟩ := id hp
    obtain ⟨dx', w1, w2, w3, ep', j1, j2, j3⟩ := id hp'
    obtain ⟨Ar, xs, rfl, eA, ix⟩ := Im.tupP i1
    obtain ⟨Br, ys, rfl, eB, iy⟩ := Im.tupP j1
    obtain ⟨Wr, ws, rfl, eW, iw⟩ := Im.tupP i3
    have lxs : xs.length = T.rows.length := by rw [ix.len, List.length_map]
    have lys : ys.length = U'.rows.length := by rw [iy.len, List.length_map]
    have lws : ws.length = T.pws.length := by rw [iw.len, List.length_map]
    obtain ⟨r6, r4, g3, p24, _, _⟩ := id sT.1
    obtain ⟨o6, o4, _, _, _, _⟩ := id sU.1
    have hsz : sizeLine = 16777216 := rfl
    refine ⟨_, rfl, _, _, rfl, .inr ⟨_, hc.sq, rfl⟩, ?_⟩
    refine ⟨_, rfl, _, rfl, p, C, dx, _, _, rfl, ep, U.cl, U.nR, rfl, _, _, rfl, .inr ⟨_, .inl (.inl eA), rfl⟩, rfl, _, rfl, ?_⟩
    rw [lch, lxs]
    refine ite2 (fun heq => ?_) (fun hne => ?_)
    · have e0 : ch.length = T.rows.length := by
        have h := of_decide_eq_true heq
        injection h with h
        omega
      have e : T.rows.drop ch.length = [] := by rw [e0, List.drop_length]
      obtain ⟨hm, hb⟩ := id hh
      rw [e0, List.take_length] at hm hb
      rw [e] at kn ky
      unfold pairF at kn ky
      refine ⟨_, rfl, p, C, dx, _, _, rfl, ep, U.cl, U.nP, rfl, Wr, rfl, ⟨_, .inl (.inl eW)⟩, fun L hL => ?_⟩
      refine lc_it (walk_tup (xs := ws)) (fun j H' => ∃ zs, H' L = some (.lst zs) ∧ PowAll H' zs (sentPw m (T.pws.take j)) ∧ zs.length = j ∧ Kp [] H H') ⟨[], upd_same, .nil, rfl, Kp.new hL⟩ (fun j H' _ h => let ⟨_, _, _, _, kq⟩ := h; .inl (.inl (kq.tp _ _ eW))) (fun j xk H9 H10 hj h9 hy => ?_) (fun H9 h9 => ?_)
      · obtain ⟨zs, hz, pz, lz, k9⟩ := h9
        obtain ⟨rfl, hv⟩ := hy
        obtain ⟨t1, q, rfl, eq, ht1⟩ := imPow_getV (ImAll.kp k9 iw) hv
        obtain ⟨tt, l1, _⟩ := look_strM (by omega) hm hb (sT.pwin q (List.mem_of_getElem? eq))
        refine ⟨t1, _, rfl, SqT.of ht1, rfl, _, _, rfl, _, _, rfl, rfl, ?_⟩
        refine ⟨rfl, _, rfl, _, rfl, Dm, _, rfl, .inl ⟨_, .inr q.1, k9.rd (fun z => nomatch z) hD, rfl, by rw [kvM_val, l1]; rfl⟩, _, rfl, by show 2 ≤ sizeLine; decide, fun t ht => ?_⟩
        have hzt : upd H10 t (.tup [.str tt, .int q.2]) L = some (.lst zs) := (Kp.new (ms := []) ht).at_ _ _ hz (fun z => nomatch z)
        refine ⟨zs, hzt, ?_, zs ++ [.ref t], upd_same, ?_, by simp [lz], (k9.snoc ht).late hL⟩
        · rw [lz]; exact small1000 (by omega)
        · rw [take_snoc eq]
          unfold sentPw
          rw [List.map_append]
          have kL : Kp [L] (upd H10 t (.tup [.str tt, .int q.2])) (upd (upd H10 t (.tup [.str tt, .int q.2])) L (.lst (zs ++ [.ref t]))) := Kp.updL hzt (by simp)
          have ht7 := kL.tp _ _ (upd_same (H := H10) (a := t))
          refine (pz.kp ((Kp.new (ms := [L]) ht).trans kL)).snoc ⟨t, rfl, ?_⟩
          show _ = some (HO.tup [.str (lkS m q.1), .int q.2])
          rw [lkS_of l1]; exact ht7
      · obtain ⟨zs, hz, pz, lz, k9⟩ := h9
        rw [lws, List.take_length] at pz
        refine ⟨L, zs, _, rfl, SqL.of hz, pz, fun dd ys2 hdd hys => ?_⟩
        have k10 := k9.snoc (o := .lst ys2) hdd
        have hys : PowAll (upd H9 dd (.lst ys2)) ys2 (srt (sentPw m T.pws)) := hys.kp (Kp.new (ms := []) hdd)
        refine ⟨_, rfl, dd, ys2, rfl, .inl ⟨SqL.of upd_same, fun tt htt => ?_⟩⟩
        have k11 := k10.snoc (o := .tup ys2) htt
        have hys : PowAll (upd (upd H9 dd (.lst ys2)) tt (.tup ys2)) ys2 (srt (sentPw m T.pws)) := hys.kp (Kp.new (ms := []) htt)
        have etT : upd (upd H9 dd (.lst ys2)) tt (.tup ys2) tt = some (.tup ys2) := upd_same
        generalize upd (upd H9 dd (.lst ys2)) tt (.tup ys2) = H11 at k11 hys etT
        obtain ⟨dx2, x1, x2, x3, ep2, _, _, j32⟩ := hp'.kp k11 (fun z => nomatch z)
        refine ⟨_, rfl, p', C, dx2, _, _, rfl, ep2, U.cl, U.nP, rfl, ?_⟩
        have sent : ∀ q ∈ srt (sentPw m T.pws), q.1.length ≤ 1000000 ∧ PyData.strOk q.1 = true := fun q hq => by
          obtain ⟨q0, h0, rfl⟩ := List.mem_map.mp (srt_mem.mp hq)
          obtain ⟨tt, l1, o, ho, hto⟩ := look_strM (by omega) hm hb (sT.pwin q0 h0)
          show (lkS m q0.1).length ≤ 1000000 ∧ PyData.strOk (lkS m q0.1) = true
          rw [lkS_of l1]
          exact ⟨im_row iy ho hto, (sU.2.rows o ho).2 _ hto⟩
        have ly := hys.len
        rw [srt_len] at ly
        unfold sentPw at ly
        rw [List.length_map] at ly
        have im : Im H11 2 (.ref tt) (.tuple ((srt (sentPw m T.pws)).map dPow)) := .tup etT ⟨by omega, ⟨_, etT⟩⟩ (hys.im fun e he => (sent e he).1)
        have ls := lay_pws fun q hq => (sent q hq).2
        refine ⟨_, _, im.dp (lay_tup ls), j32.dp (lay_tup (lay_pws sU.2.pws)), shaped_of ls (Nat.le_trans (dep_pws _) (by decide)), shaped_of (lay_pws sU.2.pws) (Nat.le_trans (dep_pws _) (by decide)), ?_⟩
        rw [eqv_pws]
        by_cases e3 : srt (sentPw m T.pws) = U'.pws
        · rw [decide_eq_true e3]
          exact ⟨_, rfl, iteT ⟨_, rfl, ky ch c H11 (if_pos e3) k11 (hc.kp k11)⟩⟩
        · rw [decide_eq_false e3]
          exact ⟨_, rfl, iteF (kn (if_neg e3) H11 k11)⟩
    · have ne : ch.length ≠ T.rows.length := fun z => hne (by simp [z])
      obtain ⟨n', rfl⟩ : ∃ n', n = n' + 1 := ⟨n - 1, by omega⟩
      obtain ⟨r, hr1⟩ : ∃ r, T.rows[ch.length]? = some r := ⟨_, List.getElem?_eq_getElem (by omega)⟩
      obtain ⟨a1, b1, hv1, ha1, hb1⟩ := row_at ix hr1
      refine ⟨_, rfl, p, C, dx, _, _, rfl, ep, U.cl, U.nR, rfl, _, rfl, Ar, xs, _, .ref a1, rfl, rfl, .inl (.inl eA), atI_nat hv1, ?_⟩
      refine ⟨a1, _, rfl, SqT.of ha1, rfl, _, _, rfl, _, _, rfl, rfl, ?_⟩
      have ed : T.rows.drop ch.length = r :: T.rows.drop (ch.length + 1) := by
        obtain ⟨h1, h2⟩ := List.getElem?_eq_some_iff.mp hr1
        rw [List.drop_eq_getElem_cons h1, h2]
      rw [ed] at kn ky
      let find : Row × Nat → Option (List Nat) := fun o => if o.1.1 = r.1 ∧ o.2 ∉ ch then (match bnd m r.2 o.1.2, bnd b o.1.2 r.2 with | some m', some b' => pairF U'.rows T.pws U'.pws (T.rows.drop (ch.length + 1)) (ch ++ [o.2]) m' b' | _, _ => none) else none
      have rl := r4 r (List.mem_of_getElem? hr1)
      have ch6 : ch.length ≤ 6 := by omega
      refine ⟨_, rfl, p', C, dx', _, _, rfl, ep', U.cl, U.nR, rfl, Br, ys, rfl, .inl (.inl eB), ?_⟩
      refine for_it (walk_enumT (xs := ys)) (fun i σ H' => (∃ o9 o10 o11 o12 o13 o14, σ = [some (.ref p), some (.ref p'), some (.ref c), some (.ref Dm), some (.ref De), some (.int (ch.length : Nat)), none, some (.str r.1), some (.ref b1), o9, o10, o11, o12, o13, o14, none]) ∧ Kp [] H H' ∧ ∀ o ∈ U'.rows.zipIdx.take i, find o = none) ⟨⟨_, _, _, _, _, _, rfl⟩, Kp.refl _, fun o ho => nomatch ho⟩ (fun i σ H' _ h => .inl (.inl (h.2.1.tp _ _ eB))) ?_ ?_
      · rintro i v σ H2 H3 hi ⟨⟨o9, o10, o11, o12, o13, o14, rfl⟩, k2, hno⟩ ⟨TT, x1, y, rfl, hT, rfl, ex, ey⟩
        cases ex
        obtain ⟨dy, hdy, iy1⟩ := iy.getV ey
        rw [List.getElem?_map] at hdy
        cases eo : U'.rows[i]? with
        | none => rw [eo] at hdy; cases hdy
        | some o =>
          rw [eo] at hdy
          cases hdy
          obtain ⟨a2, b2, rfl, ha2, hb2⟩ := Im.prow iy1
          have k3 := k2.snoc (o := .tup [.int (i : Nat), .ref a2]) hT
          have ha3 := k3.tp _ _ ha2
          have hb3 := k3.tp _ _ hb2
          have hz : U'.rows.zipIdx[i]? = some (o, i) := by rw [List.getElem?_zipIdx, eo]; simp
          refine ⟨TT, _, rfl, SqT.of upd_same, rfl, _, _, rfl, _, _, rfl, a2, _, rfl, SqT.of ha3, rfl, _, _, rfl, _, _, rfl, rfl, rfl, ?_⟩
          have go : find (o, i) = none → ∀ o ∈ U'.rows.zipIdx.take (i + 1), find o = none := fun e x hx => by
            rw [take_snoc hz] at hx
            rcases List.mem_append.mp hx with h | h
            · exact hno x h
            · rw [List.mem_singleton.mp h]; exact e
          have found : ∀ l, find (o, i) = some l → pairF U'.rows T.pws U'.pws (r :: T.rows.drop (ch.length + 1)) ch m b = some l := fun l e => fs_firstP (f := find) (i := i) hno hz e
          refine ⟨_, rfl, _, rfl, rfl, _, rfl, ?_⟩
          by_cases hn : o.1 = r.1
          · rw [decide_eq_true (show V.str o.1 = V.str r.1 by rw [hn])]
            refine iteF ?_
            refine ⟨_, rfl, _, rfl, c, _, rfl, .inr (hc.kp k3).sq, rfl, flat_chV ch, _, rfl, ?_⟩
            rw [inV_chV]
            by_cases hic : i ∈ ch
            · rw [decide_eq_true hic]
              refine iteT ⟨⟨_, _, _, _, _, _, rfl⟩, k3, go ?_⟩
              exact if_neg fun z => z.2 hic
            · rw [decide_eq_false hic]
              refine iteF ?_
              have ol := o4 o (List.mem_of_getElem? eo)
              have hfn : find (o, i) = match bnd m r.2 o.2, bnd b o.2 r.2 with | some m', some b' => pairF U'.rows T.pws U'.pws (T.rows.drop (ch.length + 1)) (ch ++ [i]) m' b' | _, _ => none := if_pos ⟨hn, hic⟩
              refine ⟨_, rfl, _, rfl, _, rfl, ?_⟩
              dsimp only [tNil]
              refine bound_in (k3.rd (fun z => nomatch z) hD) (by omega) (k3.tp _ _ hb1) hb3 (by omega) fun w1 H4 k4 kn4 => ?_
              have k34 := k3.trans k4
              refine ⟨_, rfl, _, rfl, _, rfl, ?_⟩
              dsimp only [tNil]
              refine bound_in (k34.rd (fun z => nomatch z) hE) (by omega) (k34.tp _ _ hb2) (k34.tp _ _ hb1) (by omega) fun w2 H5 k5 kn5 => ?_
              have k35 := k34.trans k5
              rcases kn4 with ⟨e1, rfl⟩ | ⟨W1, m', e1, rfl, hW1, _⟩
              · refine ⟨_, rfl, rfl, _, rfl, iteT ⟨⟨_, _, _, _, _, _, rfl⟩, k35, go ?_⟩⟩
                rw [hfn, e1]
              · refine ⟨_, rfl, rfl, _, rfl, iteF ?_⟩
                rcases kn5 with ⟨e2, rfl⟩ | ⟨W2, b', e2, rfl, hW2, _⟩
                · refine ⟨_, rfl, rfl, _, rfl, iteT ⟨⟨_, _, _, _, _, _, rfl⟩, k35, go ?_⟩⟩
                  rw [hfn, e1, e2]
                · refine ⟨_, rfl, rfl, _, rfl, iteF ?_⟩
                  have lm' := bnd_len e1
                  have lb' := bnd_len e2
                  have ld : (ch ++ [i]).length = ch.length + 1 := by rw [List.length_append]; rfl
                  refine ⟨_, rfl, _, rfl, _, rfl, _, rfl, by show 1 ≤ sizeLine; decide, fun u ou hu hou => ?_⟩
                  have k6 := k35.snoc (o := .frz ou (.tup [.int (i : Nat)])) hu
                  refine catN_in (hc.kp k6).sq ⟨ou, hou, upd_same⟩ (by rw [lch]; show ch.length + 1 ≤ sizeLine; omega) (by simp) fun c' H7 k7 hc' => ?_
                  rw [chV_snocP] at hc'
                  have k67 := k6.trans k7
                  have kn7 := (Kp.new (ms := []) (o := .frz ou (.tup [.int (i : Nat)])) hu).trans k7
                  have hW17 := (k5.trans kn7).at_ _ _ hW1 (fun z => nomatch z)
                  have hW27 := kn7.at_ _ _ hW2 (fun z => nomatch z)
                  have hh' : HalfAt T U' (ch ++ [i]) m' b' := by
                    have lt : (T.rows.take ch.length).length = ch.length := by rw [List.length_take]; omega
                    unfold HalfAt
                    rw [ld, take_snoc hr1, mapG_app lt, bakG_app lt, hh.1, hh.2]
                    unfold mapS bakS
                    simp only [eo]
                    rw [if_pos hn.symm]
                    exact ⟨e1, e2⟩
                  refine ⟨_, rfl, _, rfl, p, p', c', W1, W2, T, U', ch ++ [i], m', b', rfl, hp.kp k67 (fun z => nomatch z), hp'.kp k67 (fun z => nomatch z), .inr hc', .inl hW17, .inl hW27, by rw [ld]; omega, sT, sU, hh', by rw [ld]; omega, by rw [ld]; omega, fun hno' H8 k8 => ?_, fun l q H8 hl k8 hq => ?_⟩
                  · rw [ld] at hno'
                    exact ⟨_, rfl, rfl, _, rfl, iteF ⟨⟨_, _, _, _, _, _, rfl⟩, k67.trans k8, go (by rw [hfn, e1, e2]; exact hno')⟩⟩
                  · rw [ld] at hl
                    exact ⟨_, rfl, rfl, _, rfl, iteT ⟨_, rfl, ky l q H8 (found l (by rw [hfn, e1, e2]; exact hl)) (k67.trans k8) hq⟩⟩
          · rw [decide_eq_false (fun z => hn (by injection z))]
            refine iteT ⟨⟨_, _, _, _, _, _, rfl⟩, k3, go ?_⟩
            exact if_neg fun z => hn z.1
      · rintro σ H2 ⟨⟨o9, o10, o11, o12, o13, o14, rfl⟩, k2, hno⟩
        refine kn ?_ H2 k2
        have e : U'.rows.zipIdx.take ys.length = U'.rows.zipIdx := by
          rw [lys, List.take_of_length_le]
          rw [List.length_zipIdx]; omega
        rw [e] at hno
        exact List.findSome?_eq_none_iff.mpr hno
theorem ok_paired {C : Addr} (B : BiP mg) (D : Dfn K mg "paired" s_paired ["one", "other", "chosen", "there", "back"]) (U : PatCls K mg C) (G_bound : Has P w K mg base CX0 "bound" ["known", "symbols", "targets"] 2 spBound) : ∀ n : Nat, Has P w K mg base CX0 "paired" ["one", "other", "chosen", "there", "back"] (n + 3) (spPaired C n)
  | 0 => step_paired B D U G_bound 0 (Has.mono (j := 0) (k := 2) D.none (by decide))
  | n + 1 => step_paired B D U G_bound (n + 1) (ok_paired B D U G_bound n)
end
end Fm

namespace Fm
open PySem PySem.Spec PyProof.Rows L2
/-! ### pairing -/
def ToldAt (H : Hp) (v : V) (o : Option (List Nat)) : Prop := (o = none ∧ v = .non) ∨ ∃ p l, o = some l ∧ v = .ref p ∧ ChT H p l
theorem ToldAt.kp {H H' : Hp} {v : V} {o : Option (List Nat)} (h : ToldAt H v o) (k : Kp [] H H') : ToldAt H' v o := h.imp id fun ⟨p, l, a, b, c⟩ => ⟨p, l, a, b, c.kp k⟩
def ThOk (H : Hp) (v : V) : Prop := ∃ S q n d, Dt S q H n v d
theorem ThOk.kp {H H' : Hp} {v : V} (h : ThOk H v) (k : Kp [] H H') : ThOk H' v := let ⟨S, q, n, d, h⟩ := h; ⟨S, q, n, d, h.keep k⟩
def spPairing (C CE : Addr) : Sp := fun vs H Q E => ∃ (x y : V), vs = [x, y] ∧
  ((∃ (p p' : Addr) (T U : Pat), x = .ref p ∧ y = .ref p' ∧ PatAt C H p T ∧ PatAt C H p' U ∧ PatS T ∧ PatS U ∧ ∀ v H', Kp [] H H' → ToldAt H' v (pairP T U) → Q v H') ∨
   ((ThOk H x ∨ ((∃ p T, x = .ref p ∧ PatAt C H p T) ∧ ThOk H y)) ∧ ∀ (dd : Addr) (H' : Hp), Kp [] H H' → H dd = none → H' dd = some (.xd [("at", .int (-1))]) → E (.ref CE) (some dd) H'))
theorem iteFs {c : Bool} {A B : Prop} (h : c = false) (k : B) : if c = true then A else B := by rw [h]; exact iteF k
theorem iteTs {c : Bool} {A B : Prop} (h : c = true) (k : A) : if c = true then A else B := by rw [h]; exact iteT k
section
variable {P : Program} {w : World} {K : PySem.W.Frag} {mg : Str → Option Value} {base : Heap}
theorem ok_pairing {C CE : Addr} (B : Bi mg) (D : Dfn K mg "pairing" s_pairing ["one", "other"]) (U : PatCls K mg C) (X : InsX K C) (ER : ∀ base, Err P w K mg base "BadPattern" "at" CE) (G_bound : Has P w K mg base CX0 "bound" ["known", "symbols", "targets"] 2 spBound) (G_paired : ∀ n : Nat, Has P w K mg base CX0 "paired" ["one", "other", "chosen", "there", "back"] (n + 3) (spPaired C n)) :
    Has P w K mg base (L2.CX P w) "pairing" ["one", "other"] 10 (spPairing C CE) := by
  refine D.hasX sc_pairing (fun vs H Q E h => ?_) (fun f cdv A outer s H vs Q E hr h => ?_)
  · obtain ⟨x, y, rfl, _⟩ := h; rfl
  · obtain ⟨x, y, rfl, h⟩ := h
    have hu := hu_of hr
    have ER := ER base
    have G0 := G_paired
    rcases h with ⟨p, p', T, U', rfl, rfl, hp, hp', sT, sU, k⟩ | ⟨hbad, kE⟩
    · obtain ⟨r6, r4, g3, _, _, _⟩ := id sT.1
      obtain ⟨o6, o4, h3, _, _, _⟩ := id sU.1
      have G_paired := G0 T.rows.length
      have hr9 : Room (T.rows.length + 3) _ := hr.mono (show T.rows.length + 3 ≤ 9 by omega)
      refine ⟨_, (pss_cons (ps_if (PW.pt (pw_or (pt_not (pt_val (pe_callB call_isi (by rfl) B.isinstance (by decide +kernel) (pa_cons (pv 0) (pa_cons (pe_glob (v := .ref C) rfl U.mgC rfl) pa_nil))))) (pw_or1 (pt_not (pt_val (pe_callB call_isi (by rfl) B.isinstance (by decide +kernel) (pa_cons (pv 1) (pa_cons (pe_glob (v := .ref C) rfl U.mgC rfl) pa_nil))))))))
  (pss_one (ps_raiseE rfl ER hr (by decide) (takes_of rfl rfl rfl rfl) (pa_cons (pe_un un_neg pe_int) pa_nil)))
  pss_nil)
  (pss_cons (ps_set (i := 2) sc_pairing.nd rfl (by first | exact Or.inl rfl | exact Or.inr rfl) (pe_has G_bound (hr.mono (by omega)) (pa_cons pe_dnewK (pa_cons (pe_fld (pv 0) rfl) (pa_cons (pe_fld (pv 1) rfl) pa_nil)))))
  (pss_cons (ps_set (i := 3) sc_pairing.nd rfl (by first | exact Or.inl rfl | exact Or.inr rfl) (pe_has G_bound (hr.mono (by omega)) (pa_cons pe_dnewK (pa_cons (pe_fld (pv 1) rfl) (pa_cons (pe_fld (pv 0) rfl) pa_nil)))))
  (pss_cons (ps_if (PW.pt (pw_or (pt_cmpR op_isN (pv 2) pe_non (nomark _)) (pw_or (pt_cmpR op_isN (pv 3) pe_non (nomark _)) (pw_or1 (pt_cmpR op_ne (pe_callB call_len (by rfl) B.len PySem.boot_len (pa_cons (pe_fld (pv 0) rfl) pa_nil)) (pe_callB call_len (by rfl) B.len PySem.boot_len (pa_cons (pe_fld (pv 1) rfl) pa_nil)) (nomark _))))))
  (pss_one (ps_ret pe_non))
  pss_nil)
  (pss_one (ps_ret (pe_has G_paired hr9 (pa_cons (pv 0) (pa_cons (pv 1) (pa_cons (pe_tup pa_nil) (pa_cons (pv 2) (pa_cons (pv 3) pa_nil)))))))))))), ?_⟩
      obtain ⟨dx, v1, v2, v3, ep, i1, i2, i3⟩ := id hp
      obtain ⟨dx', w1, w2, w3, ep', j1, j2, j3⟩ := id hp'
      obtain ⟨a1, xs, rfl, e1, ix⟩ := Im.tupP i1
      obtain ⟨a2, gs, rfl, e2, ig⟩ := Im.tupP i2
      obtain ⟨b1, ys, rfl, f1, iy⟩ := Im.tupP j1
      obtain ⟨b2, hs, rfl, f2, ih⟩ := Im.tupP j2
      have := ig.syms
      subst this
      have := ih.syms
      subst this
      have lxs : xs.length = T.rows.length := by rw [ix.len, List.length_map]
      have lys : ys.length = U'.rows.length := by rw [iy.len, List.length_map]
      refine ⟨_, rfl, _, _, _, _, _, rfl, .own C, X.ty ep, kit_self, _, rfl, iteF ?_⟩
      refine ⟨_, rfl, _, _, _, _, _, rfl, .own C, X.ty ep', kit_self, _, rfl, iteF ?_⟩
      intro D0 hD0
      have k0 : Kp [] H (upd H D0 (.dK [])) := Kp.new hD0
      have ep0 := k0.at_ _ _ ep (fun z => nomatch z)
      have ep0' := k0.at_ _ _ ep' (fun z => nomatch z)
      refine ⟨_, rfl, p, C, dx, _, _, rfl, ep0, U.cl, U.nG, rfl, _, rfl, p', C, dx', _, _, rfl, ep0', U.cl, U.nG, rfl, ?_⟩
      dsimp only [tNil]
      refine bound_in (m := []) (.inl upd_same) (by decide) (k0.tp _ _ e2) (k0.tp _ _ f2) (by omega) fun v1 H1 k1 kn1 => ?_
      have k01 := k0.trans k1
      intro D1 hD1
      have k2 := k01.snoc (o := .dK []) hD1
      have ep2 := k2.at_ _ _ ep (fun z => nomatch z)
      have ep2' := k2.at_ _ _ ep' (fun z => nomatch z)
      refine ⟨_, rfl, p', C, dx', _, _, rfl, ep2', U.cl, U.nG, rfl, _, rfl, p, C, dx, _, _, rfl, ep2, U.cl, U.nG, rfl, ?_⟩
      dsimp only [tNil]
      refine bound_in (m := []) (.inl upd_same) (by decide) (k2.tp _ _ f2) (k2.tp _ _ e2) (by omega) fun v2 H3 k3 kn3 => ?_
      have k03 := k2.trans k3
      have kn13 := kn1.kp ((Kp.new (ms := []) (o := .dK []) hD1).trans k3)
      have ep3 := k03.at_ _ _ ep (fun z => nomatch z)
      have ep3' := k03.at_ _ _ ep' (fun z => nomatch z)
      unfold pairP at k
      rcases kn13 with ⟨n1, rfl⟩ | ⟨W1, m, n1, rfl, hW1, _⟩
      · refine ⟨_, rfl, rfl, _, rfl, iteT (k _ H3 k03 (.inl ⟨?_, rfl⟩))⟩
        rw [n1]; split <;> rfl
      · refine ⟨_, rfl, rfl, _, rfl, iteF ?_⟩
        rcases kn3 with ⟨n2, rfl⟩ | ⟨W2, b, n2, rfl, hW2, _⟩
        · refine ⟨_, rfl, rfl, _, rfl, iteT (k _ H3 k03 (.inl ⟨?_, rfl⟩))⟩
          rw [n1, n2]; split <;> rfl
        · refine ⟨_, rfl, rfl, _, rfl, iteF ?_⟩
          refine ⟨_, rfl, p, C, dx, _, _, rfl, ep3, U.cl, U.nR, rfl, _, _, rfl, .inr ⟨_, .inl (.inl (k03.tp _ _ e1)), rfl⟩, _, rfl, p', C, dx', _, _, rfl, ep3', U.cl, U.nR, rfl, _, _, rfl, .inr ⟨_, .inl (.inl (k03.tp _ _ f1)), rfl⟩, rfl, _, rfl, ?_⟩
          rw [lxs, lys]
          by_cases hl : T.rows.length = U'.rows.length
          · rw [if_pos hl, n1, n2] at k
            refine iteFs (by rw [hl, decide_eq_true rfl]; rfl) ?_
            have lm := bnd_len n1
            have lb := bnd_len n2
            refine ⟨_, rfl, _, rfl, by show 0 ≤ sizeLine; decide, fun c hc => ?_⟩
            have k4 := k03.snoc (o := .tup []) hc
            have kc := Kp.new (ms := []) (o := .tup []) hc
            refine ⟨_, rfl, _, rfl, p, p', c, W1, W2, T, U', [], m, b, rfl, hp.kp k4 (fun z => nomatch z), hp'.kp k4 (fun z => nomatch z), .inl ⟨rfl, upd_same⟩, .inl (kc.at_ _ _ hW1 (fun z => nomatch z)), .inl (kc.at_ _ _ hW2 (fun z => nomatch z)), by simp, sT, sU, ⟨n1, n2⟩, by simp at lm ⊢; omega, by simp at lb ⊢; omega, fun hn H5 k5 => ?_, fun l q H5 hl k5 hq => ?_⟩
            · exact k _ H5 (k4.trans k5) (.inl ⟨hn, rfl⟩)
            · exact k _ H5 (k4.trans k5) (.inr ⟨q, l, hl, rfl, hq⟩)
          · rw [if_neg hl] at k
            refine iteTs (by rw [decide_eq_false (fun z => hl (by injection z with z; omega))]; rfl) (k _ H3 k03 (.inl ⟨rfl, rfl⟩))
    · have G_paired := G0 0
      have hr9 : Room (0 + 3) _ := hr.mono (show 0 + 3 ≤ 9 by omega)
      refine ⟨_, (pss_cons (ps_if (PW.pt (pw_or (pt_not (pt_val (pe_callB call_isi (by rfl) B.isinstance (by decide +kernel) (pa_cons (pv 0) (pa_cons (pe_glob (v := .ref C) rfl U.mgC rfl) pa_nil))))) (pw_or1 (pt_not (pt_val (pe_callB call_isi (by rfl) B.isinstance (by decide +kernel) (pa_cons (pv 1) (pa_cons (pe_glob (v := .ref C) rfl U.mgC rfl) pa_nil))))))))
  (pss_one (ps_raiseE rfl ER hr (by decide) (takes_of rfl rfl rfl rfl) (pa_cons (pe_un un_neg pe_int) pa_nil)))
  pss_nil)
  (pss_cons (ps_set (i := 2) sc_pairing.nd rfl (by first | exact Or.inl rfl | exact Or.inr rfl) (pe_has G_bound (hr.mono (by omega)) (pa_cons pe_dnewK (pa_cons (pe_fld (pv 0) rfl) (pa_cons (pe_fld (pv 1) rfl) pa_nil)))))
  (pss_cons (ps_set (i := 3) sc_pairing.nd rfl (by first | exact Or.inl rfl | exact Or.inr rfl) (pe_has G_bound (hr.mono (by omega)) (pa_cons pe_dnewK (pa_cons (pe_fld (pv 1) rfl) (pa_cons (pe_fld (pv 0) rfl) pa_nil)))))
  (pss_cons (ps_if (PW.pt (pw_or (pt_cmpR op_isN (pv 2) pe_non (nomark _)) (pw_or (pt_cmpR op_isN (pv 3) pe_non (nomark _)) (pw_or1 (pt_cmpR op_ne (pe_callB call_len (by rfl) B.len PySem.boot_len (pa_cons (pe_fld (pv 0) rfl) pa_nil)) (pe_callB call_len (by rfl) B.len PySem.boot_len (pa_cons (pe_fld (pv 1) rfl) pa_nil)) (nomark _))))))
  (pss_one (ps_ret pe_non))
  pss_nil)
  (pss_one (ps_ret (pe_has G_paired hr9 (pa_cons (pv 0) (pa_cons (pv 1) (pa_cons (pe_tup pa_nil) (pa_cons (pv 2) (pa_cons (pv 3) pa_nil)))))))))))), ?_⟩
      rcases hbad with ⟨S, q, n, d, hd⟩ | ⟨⟨p, T, rfl, dx, v1, v2, v3, hp, _⟩, S, q, n, d, hd⟩
      · refine ⟨_, rfl, _, _, _, _, _, rfl, .own C, hd.ty, X.datD d, _, rfl, iteT ?_⟩
        exact ⟨_, rfl, by simp, fun b hb => err_in hb fun dd hdd => kE dd _ (Kp.new hdd) hdd upd_same⟩
      · refine ⟨_, rfl, _, _, _, _, _, rfl, .own C, X.ty hp, kit_self, _, rfl, iteF ?_⟩
        refine ⟨_, rfl, _, _, _, _, _, rfl, .own C, hd.ty, X.datD d, _, rfl, iteT ?_⟩
        exact ⟨_, rfl, by simp, fun b hb => err_in hb fun dd hdd => kE dd _ (Kp.new hdd) hdd upd_same⟩
end
end Fm

namespace Fm
open PySem PySem.Spec PyProof.Rows L2
theorem slA_in {K : PySem.W.Frag} {H : Hp} {a : Addr} {xs : List V} {n : Nat} {Q : VK} (h : H a = some (.tup xs)) (q : ∀ l H', Kp [] H H' → H' l = some (.tup (xs.take n)) → Q (.ref l) H') : rSlA K (.ref a) none (some (n : Int)) H Q := by
  refine ⟨a, xs, rfl, .inl (.inl h), fun hw => q a H (Kp.refl _) ?_, fun hn p np => q p _ (Kp.new np) ?_⟩
  · have := hw.2
    rw [HT.sIx_nat] at this
    rw [h, List.take_of_length_le (by omega)]
  · rw [upd_same]
    show some (HO.tup ((xs.drop (HT.sIx xs.length 0 none)).take (HT.sIx xs.length xs.length (some (n : Int)) - HT.sIx xs.length 0 none))) = _
    rw [HT.sIx_nat, HT.sIx_none, List.drop_zero, Nat.sub_zero]
    congr 2
    rw [Nat.min_def]
    split
    · rfl
    · rw [List.take_length, List.take_of_length_le (by omega)]
theorem imAll_take {H : Hp} {n : Nat} : ∀ {xs : List V} {ds : List PyData}, ImAll H n xs ds → ∀ i, ImAll H n (xs.take i) (ds.take i)
  | _, _, _, 0 => .nil
  | _, _, .nil, _ + 1 => .nil
  | _, _, .cons a b, i + 1 => .cons a (imAll_take b i)
/-- lists of indexes -/
inductive ChAll (S : Addr → Prop) (H : Hp) : List V → List (List Nat) → Prop
  | nil : ChAll S H [] []
  | cons {a : Addr} {ch : List Nat} {vs : List V} {cs : List (List Nat)} : S a → H a = some (.lst (chV ch)) → ChAll S H vs cs → ChAll S H (.ref a :: vs) (ch :: cs)
theorem ChAll.len {S : Addr → Prop} {H : Hp} : ∀ {vs : List V} {cs : List (List Nat)}, ChAll S H vs cs → vs.length = cs.length
  | _, _, .nil => rfl
  | _, _, .cons _ _ d => congrArg (· + 1) d.len
theorem ChAll.kp {S : Addr → Prop} {ms : List Addr} {H H' : Hp} (k : Kp ms H H') (hm : ∀ x ∈ ms, ¬ S x) : ∀ {vs : List V} {cs : List (List Nat)}, ChAll S H vs cs → ChAll S H' vs cs
  | _, _, .nil => .nil
  | _, _, .cons s a d => .cons s (k.at_ _ _ a fun z => hm _ z s) (d.kp k hm)
theorem ChAll.imp {S S' : Addr → Prop} {H : Hp} (i : ∀ a, S a → S' a) : ∀ {vs : List V} {cs : List (List Nat)}, ChAll S H vs cs → ChAll S' H vs cs
  | _, _, .nil => .nil
  | _, _, .cons s a d => .cons (i _ s) a (d.imp i)
theorem ChAll.getV {S : Addr → Prop} {H : Hp} : ∀ {vs : List V} {cs : List (List Nat)}, ChAll S H vs cs → ∀ {i : Nat} {v : V}, vs[i]? = some v → ∃ a ch, v = .ref a ∧ cs[i]? = some ch ∧ H a = some (.lst (chV ch)) ∧ S a
  | _, _, .cons s a d, 0, v, h => by cases h; exact ⟨_, _, rfl, rfl, a, s⟩
  | _, _, .cons s a d, i + 1, v, h => d.getV (i := i) h
theorem ChAll.snoc {S : Addr → Prop} {H : Hp} {a : Addr} {ch : List Nat} (s : S a) (h : H a = some (.lst (chV ch))) : ∀ {vs : List V} {cs : List (List Nat)}, ChAll S H vs cs → ChAll S H (vs ++ [.ref a]) (cs ++ [ch])
  | _, _, .nil => .cons s h .nil
  | _, _, .cons s1 a1 d => .cons s1 a1 (d.snoc s h)
def spInt1 : Sp := fun vs H Q _ => ∃ i : Int, vs = [.int i] ∧ Q (.bl true) H
def spInts : Sp := fun vs H Q _ => ∃ (p : Addr) (l : List Nat), vs = [.ref p] ∧ H p = some (.tup (chV l)) ∧ Q (.bl true) H
def spJudged : Sp := fun vs H Q _ => ∃ (A B a b p : Addr) (xs ys : List V) (rs os : List Row) (g g' : List Key) (ch : List Nat), vs = [.ref A, .ref a, .ref B, .ref b, .ref p] ∧ H A = some (.tup xs) ∧ ImAll H 2 xs (rs.map dPR) ∧ H B = some (.tup ys) ∧ ImAll H 2 ys (os.map dPR) ∧ H a = some (.tup (g.map kV)) ∧ H b = some (.tup (g'.map kV)) ∧ H p = some (.tup (chV ch)) ∧
  ch.length = rs.length ∧ (∀ i ∈ ch, i < os.length) ∧ rs.length ≤ 6 ∧ os.length ≤ 6 ∧ (∀ r ∈ rs, r.2.length ≤ 4) ∧ g.length ≤ 3 ∧ (mapG os rs ch (bnd [] g g')).isSome ∧ ∀ H', Kp [] H H' → Q (.bl true) H'
def extF (os rs : List Row) (o : Option Mp) (k n : Nat) (ch : List Nat) : List (List Nat) := ((List.range n).filter fun i => (mapG os (rs.take (k + 1)) (ch ++ [i]) o).isSome).map fun i => ch ++ [i]
theorem lvl_succ (os rs : List Row) (o : Option Mp) (k : Nat) : lvl os rs o (k + 1) = (lvl os rs o k).flatMap (extF os rs o k os.length) := rfl
theorem extF_succ (os rs : List Row) (o : Option Mp) (k n : Nat) (ch : List Nat) : extF os rs o k (n + 1) ch = extF os rs o k n ch ++ (if (mapG os (rs.take (k + 1)) (ch ++ [n]) o).isSome then [ch ++ [n]] else []) := by
  unfold extF
  rw [List.range_succ, List.filter_append, List.map_append]
  congr 1
  by_cases h : (mapG os (rs.take (k + 1)) (ch ++ [n]) o).isSome
  · rw [if_pos h]; simp [h]
  · rw [if_neg h]; simp [h]
theorem extF_len (os rs : List Row) (o : Option Mp) (k n : Nat) (ch : List Nat) : (extF os rs o k n ch).length ≤ n := by
  unfold extF
  rw [List.length_map]
  exact Nat.le_trans (List.length_filter_le ..) (by rw [List.length_range]; omega)
theorem flat_len {α β : Type} {f : α → List β} {n : Nat} (h : ∀ a, (f a).length ≤ n) : ∀ L : List α, (L.flatMap f).length ≤ n * L.length
  | [] => Nat.zero_le _
  | a :: L => by
    rw [List.flatMap_cons, List.length_append, List.length_cons, Nat.mul_succ]
    have := flat_len h L
    have := h a
    omega
theorem lvl_take {os rs : List Row} {o : Option Mp} (h : os.length ≤ 6) : ∀ k, (lvl os rs o k).length ≤ 6 ^ k
  | 0 => Nat.le_refl _
  | k + 1 => by
    rw [lvl_succ]
    have := flat_len (f := extF os rs o k os.length) (n := 6) (fun a => Nat.le_trans (extF_len ..) h) (lvl os rs o k)
    have := lvl_take (rs := rs) (o := o) h k
    rw [Nat.pow_succ]
    omega
section
variable {P : Program} {w : World} {K : PySem.W.Frag} {mg : Str → Option Value} {base : Heap}
theorem ok_integer1 (B : Bi mg) (D : Dfn K mg "_law_integer" s__law_integer ["_law_thing"]) : Has P w K mg base CX0 "_law_integer" ["_law_thing"] 1 spInt1 := by
  refine D.has sc__law_integer (fun vs H Q E h => ?_) (fun f cdv A outer s H vs Q E hr h => ?_)
  · obtain ⟨i, rfl, _⟩ := h; rfl
  · obtain ⟨i, rfl, k⟩ := h
    have hx : Im H 0 (.int i) (.int i) := .int i
    refine ⟨_, (pss_one (ps_ret (pe_and (pe_callB call_isi (by rfl) B.isinstance (by decide +kernel) (pa_cons (pv 0) (pa_cons (pe_bltn (v := .ty "int") (by rfl) B.int (by decide +kernel) rfl) pa_nil))) (pe_one (pe_not (pe_callB call_isi (by rfl) B.isinstance (by decide +kernel) (pa_cons (pv 0) (pa_cons (pe_bltn (v := .ty "bool") (by rfl) B.bool (by decide +kernel) rfl) pa_nil)))))))), ?_⟩
    refine ⟨_, rfl, _, _, _, _, _, rfl, .ty _, hx.ty, kit_ty (kb_int _), _, rfl, iteT ⟨_, rfl, _, _, _, _, _, rfl, .ty _, hx.ty, kit_ty (kb_bool _), _, rfl, k⟩⟩
end
end Fm

namespace Fm
open PySem PySem.Spec PyProof.Rows L2
/-! ### the law's own judgement of a pairing -/
def spJudgedG : Sp := fun vs H Q _ => ∃ (A B a b p : Addr) (xs ys : List V) (rs os : List Row) (g g' : List Key) (ch : List Nat), vs = [.ref A, .ref a, .ref B, .ref b, .ref p] ∧ H A = some (.tup xs) ∧ ImAll H 2 xs (rs.map dPR) ∧ H B = some (.tup ys) ∧ ImAll H 2 ys (os.map dPR) ∧ H a = some (.tup (g.map kV)) ∧ H b = some (.tup (g'.map kV)) ∧ ChT H p ch ∧
  ch.length = rs.length ∧ (∀ i ∈ ch, i < os.length) ∧ rs.length ≤ 6 ∧ os.length ≤ 6 ∧ (∀ r ∈ rs, r.2.length ≤ 4) ∧ g.length ≤ 3 ∧ ∀ H', Kp [] H H' → Q (.bl (mapG os rs ch (bnd [] g g')).isSome) H'
structure LfAt (H : Hp) (a : Addr) (T : Pat) (A G W : Addr) (xs ws : List V) : Prop where
  at_ : H a = some (.lst [.ref A, .ref G, .ref W])
  rows : H A = some (.tup xs)
  ix : ImAll H 2 xs (T.rows.map dPR)
  grp : H G = some (.tup (T.grp.map kV))
  pws : H W = some (.tup ws)
  iw : ImAll H 2 ws (T.pws.map dPow)
theorem LfAt.kp {H H' : Hp} {a : Addr} {T : Pat} {A G W : Addr} {xs ws : List V} {ms : List Addr} (h : LfAt H a T A G W xs ws) (k : Kp ms H H') (ha : a ∉ ms) : LfAt H' a T A G W xs ws :=
  ⟨k.at_ _ _ h.at_ ha, k.tp _ _ h.rows, ImAll.kp k h.ix, k.tp _ _ h.grp, k.tp _ _ h.pws, ImAll.kp k h.iw⟩
def isPr (T U : Pat) (ch : List Nat) : Bool := match mapG U.rows T.rows ch (bnd [] T.grp U.grp), mapG T.rows U.rows (invC U.rows.length ch) (bnd [] U.grp T.grp) with
  | some m, some _ => decide (srt (sentPw m T.pws) = U.pws)
  | _, _ => false
theorem isPr_iff {T U : Pat} {ch : List Nat} (hn : T.rows.length = U.rows.length) (hl : ch.length = T.rows.length) (nd : ch.Nodup) (lt : ∀ i ∈ ch, i < U.rows.length) : isPr T U ch = true ↔ Prg T U ch := by
  unfold isPr
  constructor
  · intro h
    split at h
    · rename_i m m2 h1 h2
      obtain ⟨b, hb⟩ := half_back hl hn nd lt h1 h2
      exact ⟨hn, hl, nd, lt, m, b, h1, hb, of_decide_eq_true h⟩
    · cases h
  · rintro ⟨_, _, _, _, m, b, h1, hb, h3⟩
    obtain ⟨m2, b2, e1, _⟩ := half_inv hl hn nd lt h1 hb
    rw [h1, e1]
    exact decide_eq_true h3
def spIsPairing : Sp := fun vs H Q _ => ∃ (a b p : Addr) (T U : Pat) (A G W A' G' W' : Addr) (xs ws xs' ws' : List V) (ch : List Nat), vs = [.ref a, .ref b, .ref p] ∧ LfAt H a T A G W xs ws ∧ LfAt H b U A' G' W' xs' ws' ∧ ChT H p ch ∧ PatS T ∧ PatS U ∧ T.rows.length = U.rows.length ∧ ch.length = T.rows.length ∧ ch.Nodup ∧ (∀ i ∈ ch, i < U.rows.length) ∧
  ∀ H', Kp [] H H' → Q (.bl (isPr T U ch)) H'
theorem shapedL_of {ds : List PyData} (h : PyData.canLayAll0 ds = true) (hd : PyData.depthAll ds ≤ 2) : SeqAt.shaped (.list ds) = true := by
  refine Bool.and_eq_true_iff.mpr ⟨by simp only [PyData.canLay0, h], decide_eq_true ?_⟩
  simp only [PyData.depth]
  omega
theorem lay_lst {ds : List PyData} (h : PyData.canLayAll0 ds = true) : (PyData.list ds).canLay0 = true := by simp only [PyData.canLay0, h]
theorem eqv_pwsLL (ts us : List (Str × Int)) : PyData.eqv (.list (ts.map dPow)) (.list (us.map dPow)) = decide (ts = us) := by
  simp only [PyData.eqv, eqv_pwsL]
def spIntsN : Sp := fun vs H Q _ => ∃ (p : Addr) (l : List Nat), vs = [.ref p] ∧ ChT H p l ∧ Q (.bl true) H
section
variable {P : Program} {w : World} {K : PySem.W.Frag} {mg : Str → Option Value} {base : Heap}
theorem ok_integersN (B : Bi mg) (D : Dfn K mg "_law_integers" s__law_integers ["_law_thing"]) (G_integer : Has P w K mg base CX0 "_law_integer" ["_law_thing"] 1 spInt1) : Has P w K mg base CX0 "_law_integers" ["_law_thing"] 2 spIntsN := by
  refine D.has sc__law_integers (fun vs H Q E h => ?_) (fun f cdv A outer s H vs Q E hr h => ?_)
  · obtain ⟨p, l, rfl, _⟩ := h; rfl
  · obtain ⟨p, l, rfl, hp, k⟩ := h
    refine ⟨_, (pss_cons (ps_if (pt_not (pt_val (pe_callB call_isi (by rfl) B.isinstance (by decide +kernel) (pa_cons (pv 0) (pa_cons (pe_bltn (v := .ty "tuple") (by rfl) B.tuple (by decide +kernel) rfl) pa_nil)))))
  (pss_one (ps_ret pe_bl))
  pss_nil)
  (pss_cons (ps_for PassesOwn.never rfl (pi_tup (pv 0)) (pg_name (i := 1) sc__law_integers.nd rfl (by first | exact Or.inl rfl | exact Or.inr rfl))
  (pss_one (ps_if (pt_not (pt_val (pe_has G_integer (hr.mono (by omega)) (pa_cons (pv 1) pa_nil))))
  (pss_one (ps_ret pe_bl))
  pss_nil)))
  (pss_one (ps_ret pe_bl)))), ?_⟩
    refine ⟨_, rfl, _, _, _, _, _, rfl, .ty _, hp.ty, kit_ty (kb_tuple (.tuple [])), _, rfl, iteF ?_⟩
    refine ⟨_, rfl, p, rfl, ⟨_, hp.sq⟩, ?_⟩
    refine for_it (walk_tup (xs := chV l)) (fun i σ H' => (∃ o, σ = [some (.ref p), o]) ∧ H' = H) ⟨⟨_, rfl⟩, rfl⟩ (fun i σ H' _ h => by rw [h.2]; exact hp.sq) ?_ ?_
    · rintro i v σ H2 H3 hi ⟨⟨o, rfl⟩, rfl⟩ ⟨rfl, hv⟩
      unfold chV at hv
      rw [List.getElem?_map] at hv
      cases e : l[i]? with
      | none => rw [e] at hv; cases hv
      | some j =>
        rw [e] at hv
        cases hv
        exact ⟨_, rfl, _, rfl, _, rfl, iteF ⟨⟨_, rfl⟩, rfl⟩⟩
    · rintro σ H2 ⟨⟨o, rfl⟩, rfl⟩
      exact k
theorem ok_judgedG (B : Bi mg) (D : Dfn K mg "_law_judged" s__law_judged ["_law_rows", "_law_group", "_law_other_rows", "_law_other_group", "_law_thing"]) (G_integers : Has P w K mg base CX0 "_law_integers" ["_law_thing"] 2 spIntsN)
    (G_map_over : Has P w K mg base CX0 "_law_map_over" ["_law_rows", "_law_group", "_law_other_rows", "_law_other_group", "_law_indexes"] 3 spMapOver) : Has P w K mg base CX0 "_law_judged" ["_law_rows", "_law_group", "_law_other_rows", "_law_other_group", "_law_thing"] 4 spJudgedG := by
  refine D.has sc__law_judged (fun vs H Q E h => ?_) (fun f cdv A outer s H vs Q E hr h => ?_)
  · obtain ⟨A, B, a, b, I, xs, ys, rs, os, g, g', ch, rfl, _⟩ := h; rfl
  · obtain ⟨Ar, Br, a, b, p, xs, ys, rs, os, g, g', ch, rfl, hA, ix, hB, iy, ha, hb, hp, lc, lt, r6, o6, r4, g3, k⟩ := h
    have hu := hu_of hr
    refine ⟨_, (pss_cons (ps_if (PW.pt (pw_or (pt_not (pt_val (pe_has G_integers (hr.mono (by omega)) (pa_cons (pv 4) pa_nil)))) (pw_or1 (pt_cmpR op_ne (pe_callB call_len (by rfl) B.len PySem.boot_len (pa_cons (pv 4) pa_nil)) (pe_callB call_len (by rfl) B.len PySem.boot_len (pa_cons (pv 0) pa_nil)) (nomark _)))))
  (pss_one (ps_ret pe_bl))
  pss_nil)
  (pss_cons (ps_for PassesOwn.never rfl (pi_tup (pv 4)) (pg_name (i := 5) sc__law_judged.nd rfl (by first | exact Or.inl rfl | exact Or.inr rfl))
  (pss_one (ps_if (PW.pt (pw_or (pt_cmpR op_lt (pv 5) pe_int (nomark _)) (pw_or1 (pt_cmpR op_ge (pv 5) (pe_callB call_len (by rfl) B.len PySem.boot_len (pa_cons (pv 2) pa_nil)) (nomark _)))))
  (pss_one (ps_ret pe_bl))
  pss_nil)))
  (pss_one (ps_ret (pe_cmpR op_notN (pe_has G_map_over (hr.mono (by omega)) (pa_cons (pv 0) (pa_cons (pv 1) (pa_cons (pv 2) (pa_cons (pv 3) (pa_cons (pv 4) pa_nil)))))) pe_non (nomark _)))))), ?_⟩
    have lxs : xs.length = rs.length := by rw [ix.len, List.length_map]
    have lys : ys.length = os.length := by rw [iy.len, List.length_map]
    have lch : (chV ch).length = ch.length := List.length_map ..
    refine ⟨_, rfl, p, ch, rfl, hp, _, rfl, iteF ?_⟩
    refine ⟨_, rfl, _, _, rfl, .inr ⟨_, hp.sq, rfl⟩, _, rfl, _, _, rfl, .inr ⟨_, .inl (.inl hA), rfl⟩, rfl, _, rfl, ?_⟩
    rw [lch, lc, lxs]
    refine iteNS (by simp) ?_
    refine ⟨_, rfl, p, rfl, ⟨_, hp.sq⟩, ?_⟩
    refine for_it (walk_tup (xs := chV ch)) (fun i σ H' => (∃ o, σ = [some (.ref Ar), some (.ref a), some (.ref Br), some (.ref b), some (.ref p), o]) ∧ H' = H) ⟨⟨_, rfl⟩, rfl⟩ (fun i σ H' _ h => by rw [h.2]; exact hp.sq) ?_ ?_
    · rintro i v σ H2 H3 hi ⟨⟨o, rfl⟩, rfl⟩ ⟨rfl, hv⟩
      unfold chV at hv
      rw [List.getElem?_map] at hv
      cases e : ch[i]? with
      | none => rw [e] at hv; cases hv
      | some j =>
        rw [e] at hv
        cases hv
        have jl := lt j (List.mem_of_getElem? e)
        refine ⟨_, rfl, _, _, rfl, rfl, _, rfl, ?_⟩
        refine iteFs (decide_eq_false (show ¬ ((j : Nat) : Int) < 0 by omega)) ?_
        refine ⟨_, rfl, _, rfl, _, _, rfl, .inr ⟨_, .inl (.inl hB), rfl⟩, _, _, rfl, rfl, _, rfl, ?_⟩
        refine iteFs (decide_eq_false (show ¬ ((j : Nat) : Int) ≥ (ys.length : Int) by rw [lys]; omega)) ?_
        exact ⟨⟨_, rfl⟩, rfl⟩
    · rintro σ H2 ⟨⟨o, rfl⟩, rfl⟩
      refine ⟨_, rfl, _, rfl, _, rfl, _, rfl, _, rfl, Ar, Br, a, b, p, xs, ys, rs, os, g, g', ch, rfl, hA, ix, hB, iy, ha, hb, hp.rw, lc, lt, r6, o6, r4, g3, fun v H3 k3 kn => ⟨rfl, ?_⟩⟩
      rcases kn with ⟨e, rfl⟩ | ⟨W, m, e, rfl, _⟩
      · have := k H3 k3
        rw [e] at this
        exact this
      · have := k H3 k3
        rw [e] at this
        exact this
theorem ok_is_pairing (B : BiP mg) (D : Dfn K mg "_law_is_pairing" s__law_is_pairing ["_law_one", "_law_other", "_law_thing"])
    (G_judged : Has P w K mg base CX0 "_law_judged" ["_law_rows", "_law_group", "_law_other_rows", "_law_other_group", "_law_thing"] 4 spJudgedG) (G_map_over : Has P w K mg base CX0 "_law_map_over" ["_law_rows", "_law_group", "_law_other_rows", "_law_other_group", "_law_indexes"] 3 spMapOver) : Has P w K mg base CX0 "_law_is_pairing" ["_law_one", "_law_other", "_law_thing"] 5 spIsPairing := by
  refine D.has sc__law_is_pairing (fun vs H Q E h => ?_) (fun f cdv A outer s H vs Q E hr h => ?_)
  · obtain ⟨a, b, p, T, U, A, G, W, A', G', W', xs, ws, xs', ws', ch, rfl, _⟩ := h; rfl
  · obtain ⟨a, b, p, T, U, A1, G1, W1, A2, G2, W2, xs, ws, ys, vs2, ch, rfl, LT, LU, hp, sT, sU, hn, lc, nd, lt, k⟩ := h
    have hu := hu_of hr
    refine ⟨_, (pss_cons (ps_if (PW.pt (pw_or (pt_not (pt_val (pe_has G_judged (hr.mono (by omega)) (pa_cons (pe_ix ix_list (pv 0) pe_int (fun _ _ => rfl)) (pa_cons (pe_ix ix_list (pv 0) pe_int (fun _ _ => rfl)) (pa_cons (pe_ix ix_list (pv 1) pe_int (fun _ _ => rfl)) (pa_cons (pe_ix ix_list (pv 1) pe_int (fun _ _ => rfl)) (pa_cons (pv 2) pa_nil)))))))) (pw_or1 (pt_cmpR op_ne (pe_callB call_len (by rfl) B.len PySem.boot_len (pa_cons (pe_ix ix_list (pv 0) pe_int (fun _ _ => rfl)) pa_nil)) (pe_callB call_len (by rfl) B.len PySem.boot_len (pa_cons (pe_ix ix_list (pv 1) pe_int (fun _ _ => rfl)) pa_nil)) (nomark _)))))
  (pss_one (ps_ret pe_bl))
  pss_nil)
  (pss_cons (ps_set (i := 3) sc__law_is_pairing.nd rfl (by first | exact Or.inl rfl | exact Or.inr rfl) (pe_lst pa_nil))
  (pss_cons (ps_for PassesOwn.never rfl (pi_range1 rfl B.range (pa_cons (pe_callB call_len (by rfl) B.len PySem.boot_len (pa_cons (pe_ix ix_list (pv 1) pe_int (fun _ _ => rfl)) pa_nil)) pa_nil)) (pg_name (i := 4) sc__law_is_pairing.nd rfl (by first | exact Or.inl rfl | exact Or.inr rfl))
  (pss_cons (ps_if (pt_cmpR op_notIn_seq (pv 4) (pv 2) (by rfl))
  (pss_one (ps_ret pe_bl))
  pss_nil)
  (pss_one (ps_expr (pe_bm PySem.F.plainAttrs_list PySem.F.slot_list_append PySem.F.type_list_append mt_append (pv 3) (pa_cons (pe_bmN PySem.F.plainAttrs_tuple PySem.F.slot_tuple_index PySem.F.type_tuple_index mt_indexT (pv 2) (pa_cons (pv 4) pa_nil)) pa_nil))))))
  (pss_cons (ps_if (pt_cmpR op_isN (pe_has G_map_over (hr.mono (by omega)) (pa_cons (pe_ix ix_list (pv 1) pe_int (fun _ _ => rfl)) (pa_cons (pe_ix ix_list (pv 1) pe_int (fun _ _ => rfl)) (pa_cons (pe_ix ix_list (pv 0) pe_int (fun _ _ => rfl)) (pa_cons (pe_ix ix_list (pv 0) pe_int (fun _ _ => rfl)) (pa_cons (pv 3) pa_nil)))))) pe_non (nomark _))
  (pss_one (ps_ret pe_bl))
  pss_nil)
  (pss_cons (ps_set (i := 5) sc__law_is_pairing.nd rfl (by first | exact Or.inl rfl | exact Or.inr rfl) (pe_has G_map_over (hr.mono (by omega)) (pa_cons (pe_ix ix_list (pv 0) pe_int (fun _ _ => rfl)) (pa_cons (pe_ix ix_list (pv 0) pe_int (fun _ _ => rfl)) (pa_cons (pe_ix ix_list (pv 1) pe_int (fun _ _ => rfl)) (pa_cons (pe_ix ix_list (pv 1) pe_int (fun _ _ => rfl)) (pa_cons (pv 2) pa_nil)))))))
  (pss_one (ps_ret (pe_cmpR (op_eqD hr.units) (pe_callB (cr_sortedSI hr.units) (by rfl) B.sorted (by decide +kernel) (pa_cons (pe_lc (own := [("_law_part", 6)]) (g := gName 6) (by rfl) sc__law_is_pairing.nd (pi_tup (pe_ix ix_list (pv 0) pe_int (fun _ _ => rfl))) (blkOk_by (own := [("_law_part", 6)]) (N := N__law_is_pairing) (sc := defScope s__law_is_pairing) (by decide +kernel)) (fun _ _ _ _ _ => (pg_name (i := 6) sc__law_is_pairing.nd rfl (by first | exact Or.inl rfl | exact Or.inr rfl))) (fun _ _ _ _ _ => pts_nil) (fun _ _ _ _ _ => (pe_tup (pa_cons (pe_dget hu (pv 5) (pe_ix (r := rIxT K) ix_tup (pv 6) pe_int (fun _ _ => rfl)) (fun _ _ => rfl)) (pa_cons (pe_ix (r := rIxT K) ix_tup (pv 6) pe_int (fun _ _ => rfl)) pa_nil))))) pa_nil)) (pe_callTy call_list_of (by rfl) B.list (by decide +kernel) (pa_cons (pe_ix ix_list (pv 1) pe_int (fun _ _ => rfl)) pa_nil)) (nomark _))))))))), ?_⟩
    obtain ⟨r6, r4, g3, p24, _, _⟩ := id sT.1
    obtain ⟨o6, o4, h3, _, _, _⟩ := id sU.1
    have lxs : xs.length = T.rows.length := by rw [LT.ix.len, List.length_map]
    have lys : ys.length = U.rows.length := by rw [LU.ix.len, List.length_map]
    have lws : ws.length = T.pws.length := by rw [LT.iw.len, List.length_map]
    have hsz : sizeLine = 16777216 := rfl
    have lch : (chV ch).length = ch.length := List.length_map ..
    refine ⟨_, rfl, a, _, 0, .ref A1, rfl, rfl, SqL.of LT.at_, rfl, _, rfl, a, _, 1, .ref G1, rfl, rfl, SqL.of LT.at_, rfl, _, rfl, b, _, 0, .ref A2, rfl, rfl, SqL.of LU.at_, rfl, _, rfl, b, _, 1, .ref G2, rfl, rfl, SqL.of LU.at_, rfl, _, rfl, ?_⟩
    refine ⟨A1, A2, G1, G2, p, xs, ys, T.rows, U.rows, T.grp, U.grp, ch, rfl, LT.rows, LT.ix, LU.rows, LU.ix, LT.grp, LU.grp, hp, lc, lt, r6, o6, r4, g3, fun H1 k1 => ⟨_, rfl, ?_⟩⟩
    have LT1 := LT.kp k1 (fun z => nomatch z)
    have LU1 := LU.kp k1 (fun z => nomatch z)
    have hp1 := hp.kp k1
    unfold isPr at k
    cases e1 : mapG U.rows T.rows ch (bnd [] T.grp U.grp) with
    | none =>
      have k2 := k H1 k1
      rw [e1] at k2
      exact iteT k2
    | some m =>
      rw [e1] at k
      refine iteF ?_
      refine ⟨_, rfl, a, _, 0, .ref A1, rfl, rfl, SqL.of LT1.at_, rfl, _, _, rfl, .inr ⟨_, .inl (.inl LT1.rows), rfl⟩, _, rfl, b, _, 0, .ref A2, rfl, rfl, SqL.of LU1.at_, rfl, _, _, rfl, .inr ⟨_, .inl (.inl LU1.rows), rfl⟩, rfl, _, rfl, ?_⟩
      rw [lxs, lys, hn]
      refine iteFs (by simp) ?_
      refine ⟨by show 0 ≤ sizeLine; decide, fun L hL => ?_⟩
      have kL := Kp.new (ms := []) (o := .lst []) hL
      have LU2 := LU1.kp kL (fun z => nomatch z)
      refine ⟨_, rfl, b, _, 0, .ref A2, rfl, rfl, SqL.of LU2.at_, rfl, _, _, rfl, .inr ⟨_, .inl (.inl LU2.rows), rfl⟩, (ys.length : Int), rfl, by omega, by omega, ?_⟩
      refine for_range (lo := 0) (n := (ys.length : Int).toNat) (fun i σ H' => (∃ o4, σ = [some (.ref a), some (.ref b), some (.ref p), some (.ref L), o4, none, none]) ∧ H' L = some (.lst (chV ((invC U.rows.length ch).take i))) ∧ Kp [] H1 H') ⟨⟨_, rfl⟩, upd_same, kL⟩ ?_ ?_
      · rintro i σ H2 hi ⟨⟨o4', rfl⟩, h2, k2⟩
        have hi : i < U.rows.length := by omega
        have hm := ch_all (n := U.rows.length) (by omega) nd lt hi
        have hx := List.idxOf_lt_length_of_mem hm
        have ei : (0 : Int) + (i : Int) = ((i : Nat) : Int) := by omega
        rw [ei]
        have hpN : TupN H2 p (chV ch) := by
          rcases hp1.kp k2 with ⟨e, _⟩ | h
          · rw [e] at hm; cases hm
          · exact h
        refine ⟨_, rfl, _, rfl, p, _, rfl, .inr hpN.sq, rfl, flat_chV ch, _, rfl, ?_⟩
        rw [inV_chV, decide_eq_true hm]
        refine iteF ?_
        refine ⟨_, rfl, .inl ⟨rfl, _, SqL.of h2⟩, ?_⟩
        refine ⟨_, rfl, ⟨p, _, rfl, hpN⟩, _, rfl, ?_⟩
        refine ⟨p, chV ch, .int (i : Int), ch.idxOf i, .int (i : Int), rfl, rfl, hpN.sq, rfl, flat_chV ch, chV_at (idx_at hm), beq_self_eq_true _, fun m' z' hm' hz' => ?_, ?_⟩
        · have hml : m' < ch.length := by omega
          rw [chV_at (List.getElem?_eq_getElem hml)] at hz'
          cases hz'
          refine beq_eq_false_iff_ne.mpr fun z => ?_
          have z : ch[m'] = i := by have : ((ch[m'] : Nat) : Int) = (i : Int) := z; omega
          have := at_idx nd (List.getElem?_eq_getElem hml)
          rw [z] at this; omega
        · refine ⟨L, _, _, rfl, rfl, h2, ?_, ⟨_, rfl⟩, ?_, k2.late hL⟩
          · show (chV _).length < sizeLine
            unfold chV
            rw [List.length_map, List.length_take]; omega
          · rw [upd_same, take_snoc (invC_at hi), ← chV_snocP]
      · rintro σ H2 ⟨⟨o4', rfl⟩, h2, k2⟩
        rw [Int.toNat_natCast, lys] at h2
        rw [show (invC U.rows.length ch).take U.rows.length = invC U.rows.length ch from List.take_of_length_le (by rw [invC_len]; omega)] at h2
        have LT2 := LT1.kp k2 (fun z => nomatch z)
        have LU2 := LU1.kp k2 (fun z => nomatch z)
        obtain ⟨i1, i2⟩ := invC_facts (n := U.rows.length) (by omega) nd lt
        refine ⟨_, rfl, b, _, 0, .ref A2, rfl, rfl, SqL.of LU2.at_, rfl, _, rfl, b, _, 1, .ref G2, rfl, rfl, SqL.of LU2.at_, rfl, _, rfl, a, _, 0, .ref A1, rfl, rfl, SqL.of LT2.at_, rfl, _, rfl, a, _, 1, .ref G1, rfl, rfl, SqL.of LT2.at_, rfl, _, rfl, ?_⟩
        refine ⟨A2, A1, G2, G1, L, ys, xs, U.rows, T.rows, U.grp, T.grp, invC U.rows.length ch, rfl, LU2.rows, LU2.ix, LT2.rows, LT2.ix, LU2.grp, LT2.grp, .inl (.inl h2), invC_len _ _, fun x hx => by have := i2 x hx; omega, o6, r6, o4, h3, fun v H3 k3 kn => ?_⟩
        have k13 := k2.trans k3
        have LT3 := LT2.kp k3 (fun z => nomatch z)
        have LU3 := LU2.kp k3 (fun z => nomatch z)
        rcases kn with ⟨e2, rfl⟩ | ⟨_, m2, e2, rfl, _⟩
        · refine ⟨rfl, _, rfl, iteT ?_⟩
          have k4 := k H3 (k1.trans k13)
          rw [e2] at k4
          exact k4
        · refine ⟨rfl, _, rfl, iteF ?_⟩
          rw [e2] at k
          obtain ⟨bb, hb⟩ := half_back lc hn nd lt e1 e2
          refine ⟨_, rfl, a, _, 0, .ref A1, rfl, rfl, SqL.of LT3.at_, rfl, _, rfl, a, _, 1, .ref G1, rfl, rfl, SqL.of LT3.at_, rfl, _, rfl, b, _, 0, .ref A2, rfl, rfl, SqL.of LU3.at_, rfl, _, rfl, b, _, 1, .ref G2, rfl, rfl, SqL.of LU3.at_, rfl, _, rfl, ?_⟩
          refine ⟨A1, A2, G1, G2, p, xs, ys, T.rows, U.rows, T.grp, U.grp, ch, rfl, LT3.rows, LT3.ix, LU3.rows, LU3.ix, LT3.grp, LU3.grp, (hp1.kp k13).rw, lc, lt, r6, o6, r4, g3, fun v H4 k4 kn => ?_⟩
          rcases kn with ⟨e3, rfl⟩ | ⟨Dm, m3, e3, rfl, hD, _⟩
          · rw [e1] at e3; cases e3
          rw [e1] at e3
          cases e3
          have LT4 := LT3.kp k4 (fun z => nomatch z)
          have LU4 := LU3.kp k4 (fun z => nomatch z)
          have k14 := k13.trans k4
          refine ⟨_, rfl, a, _, 2, .ref W1, rfl, rfl, SqL.of LT4.at_, rfl, W1, rfl, ⟨_, .inl (.inl LT4.pws)⟩, fun L5 hL5 => ?_⟩
          refine lc_it (walk_tup (xs := ws)) (fun j H' => ∃ zs, H' L5 = some (.lst zs) ∧ PowAll H' zs (sentPw m (T.pws.take j)) ∧ zs.length = j ∧ Kp [] H4 H') ⟨[], upd_same, .nil, rfl, Kp.new hL5⟩ (fun j H' _ h => let ⟨_, _, _, _, kq⟩ := h; .inl (.inl (kq.tp _ _ LT4.pws))) (fun j xk H9 H10 hj h9 hy => ?_) (fun H9 h9 => ?_)
          · obtain ⟨zs, hz, pz, lz, k9⟩ := h9
            obtain ⟨rfl, hv⟩ := hy
            obtain ⟨t1, q, rfl, eq, ht1⟩ := imPow_getV (ImAll.kp k9 LT4.iw) hv
            obtain ⟨tt, l1, _⟩ := look_strM (by omega) e1 hb (sT.pwin q (List.mem_of_getElem? eq))
            refine ⟨rfl, _, rfl, _, rfl, t1, _, 0, .str q.1, rfl, rfl, SqT.of ht1, rfl, Dm, _, rfl, .inl ⟨_, .inr q.1, .inl (k9.at_ _ _ hD (fun z => nomatch z)), rfl, by rw [kvM_val, l1]; rfl⟩, _, rfl, t1, _, 1, .int q.2, rfl, rfl, SqT.of ht1, rfl, by show 2 ≤ sizeLine; decide, fun t ht => ?_⟩
            have hzt : upd H10 t (.tup [.str tt, .int q.2]) L5 = some (.lst zs) := (Kp.new (ms := []) ht).at_ _ _ hz (fun z => nomatch z)
            refine ⟨zs, hzt, ?_, zs ++ [.ref t], upd_same, ?_, by simp [lz], (k9.snoc ht).late hL5⟩
            · rw [lz]; exact small1000 (by omega)
            · rw [take_snoc eq]
              unfold sentPw
              rw [List.map_append]
              have kL : Kp [L5] (upd H10 t (.tup [.str tt, .int q.2])) (upd (upd H10 t (.tup [.str tt, .int q.2])) L5 (.lst (zs ++ [.ref t]))) := Kp.updL hzt (by simp)
              have ht7 := kL.tp _ _ (upd_same (H := H10) (a := t))
              refine (pz.kp ((Kp.new (ms := [L5]) ht).trans kL)).snoc ⟨t, rfl, ?_⟩
              show _ = some (HO.tup [.str (lkS m q.1), .int q.2])
              rw [lkS_of l1]; exact ht7
          · obtain ⟨zs, hz, pz, lz, k9⟩ := h9
            rw [lws, List.take_length] at pz
            refine ⟨L5, zs, _, rfl, SqL.of hz, pz, fun dd ys2 hdd hys => ?_⟩
            have k10 := k9.snoc (o := .lst ys2) hdd
            have hys : PowAll (upd H9 dd (.lst ys2)) ys2 (srt (sentPw m T.pws)) := hys.kp (Kp.new (ms := []) hdd)
            have edd : upd H9 dd (.lst ys2) dd = some (.lst ys2) := upd_same
            generalize upd H9 dd (.lst ys2) = H11 at k10 hys edd
            have LU5 := LU4.kp k10 (fun z => nomatch z)
            refine ⟨_, rfl, b, _, 2, .ref W2, rfl, rfl, SqL.of LU5.at_, rfl, W2, _, rfl, .inr (SqT.of LU5.pws), fun l6 hl6 => ?_⟩
            have k6 := Kp.new (ms := []) (o := .lst vs2) hl6
            have k16 := k10.trans k6
            have hys6 := hys.kp k6
            have edd6 := k6.at_ _ _ edd (fun z => nomatch z)
            have LU6 := LU5.kp k6 (fun z => nomatch z)
            have sent : ∀ q ∈ srt (sentPw m T.pws), q.1.length ≤ 1000000 ∧ PyData.strOk q.1 = true := fun q hq => by
              obtain ⟨q0, h0, rfl⟩ := List.mem_map.mp (srt_mem.mp hq)
              obtain ⟨tt, l1, o, ho, hto⟩ := look_strM (by omega) e1 hb (sT.pwin q0 h0)
              show (lkS m q0.1).length ≤ 1000000 ∧ PyData.strOk (lkS m q0.1) = true
              rw [lkS_of l1]
              exact ⟨im_row LU.ix ho hto, (sU.2.rows o ho).2 _ hto⟩
            have ly := hys6.len
            rw [srt_len] at ly
            unfold sentPw at ly
            rw [List.length_map] at ly
            have lv : vs2.length = U.pws.length := by rw [LU.iw.len, List.length_map]
            have u24 := sU.1.2.2.2.1
            have im1 : Dt (fun _ => True) true (upd H11 l6 (.lst vs2)) 2 (.ref dd) (.list ((srt (sentPw m T.pws)).map dPow)) := .lst (.inl edd6) ⟨by omega, trivial⟩ ((hys6.im fun e he => (sent e he).1).imp fun _ _ => trivial)
            have im2 : Dt (fun _ => True) true (upd H11 l6 (.lst vs2)) 3 (.ref l6) (.list (U.pws.map dPow)) := .lst (.inl upd_same) ⟨by omega, trivial⟩ (LU6.iw.imp fun _ _ => trivial)
            have ls := lay_pws fun q hq => (sent q hq).2
            refine ⟨_, _, im1.dp (lay_lst ls), im2.dp (lay_lst (lay_pws sU.2.pws)), shapedL_of ls (Nat.le_trans (dep_pws _) (by decide)), shapedL_of (lay_pws sU.2.pws) (Nat.le_trans (dep_pws _) (by decide)), ?_⟩
            rw [eqv_pwsLL]
            exact k _ ((k1.trans k14).trans k16)
end
end Fm

namespace Fm
open PySem PySem.Spec PyProof.Rows L2
/-! ### all pairings gone through -/
def half (T U : Pat) (ch : List Nat) : Bool := (mapG U.rows (T.rows.take ch.length) ch (bnd [] T.grp U.grp)).isSome && (bakG U.rows (T.rows.take ch.length) ch (bnd [] U.grp T.grp)).isSome
def extQ (T U : Pat) (n : Nat) (ch : List Nat) : List (List Nat) := ((List.range n).filter fun i => !decide (i ∈ ch) && half T U (ch ++ [i])).map fun i => ch ++ [i]
def lvlQ (T U : Pat) : Nat → List (List Nat)
  | 0 => [[]]
  | k + 1 => (lvlQ T U k).flatMap (extQ T U U.rows.length)
def sameQ (T U : Pat) : Bool := decide (T.rows.length = U.rows.length) && (lvlQ T U T.rows.length).any (isPr T U)
theorem extQ_succ (T U : Pat) (n : Nat) (ch : List Nat) : extQ T U (n + 1) ch = extQ T U n ch ++ (if (!decide (n ∈ ch) && half T U (ch ++ [n])) = true then [ch ++ [n]] else []) := by
  unfold extQ
  rw [List.range_succ, List.filter_append, List.map_append]
  congr 1
  have e : ∀ p : Nat → Bool, [n].filter p = if p n = true then [n] else [] := fun p => by rw [List.filter_cons]; rfl
  rw [e]
  by_cases h : (!decide (n ∈ ch) && half T U (ch ++ [n])) = true
  · rw [if_pos h, if_pos h]; rfl
  · rw [if_neg h, if_neg h]; rfl
theorem extQ_len (T U : Pat) (n : Nat) (ch : List Nat) : (extQ T U n ch).length ≤ n := by
  unfold extQ
  rw [List.length_map]
  exact Nat.le_trans (List.length_filter_le ..) (by rw [List.length_range]; omega)
theorem lvlQ_take {T U : Pat} (h : U.rows.length ≤ 6) : ∀ k, (lvlQ T U k).length ≤ 6 ^ k
  | 0 => Nat.le_refl _
  | k + 1 => by
    have := flat_len (f := extQ T U U.rows.length) (n := 6) (fun a => Nat.le_trans (extQ_len ..) h) (lvlQ T U k)
    have := lvlQ_take (T := T) (U := U) h k
    rw [Nat.pow_succ]
    show ((lvlQ T U k).flatMap _).length ≤ _
    omega
theorem lvlQ_mem {T U : Pat} : ∀ {k : Nat} {ch : List Nat}, ch ∈ lvlQ T U k → ch.length = k ∧ ch.Nodup ∧ ∀ i ∈ ch, i < U.rows.length
  | 0, ch, h => by
    rw [List.mem_singleton.mp h]
    exact ⟨rfl, List.nodup_nil, fun _ h => nomatch h⟩
  | k + 1, ch, h => by
    obtain ⟨c0, h0, h1⟩ := List.mem_flatMap.mp h
    obtain ⟨i, hi, rfl⟩ := List.mem_map.mp h1
    obtain ⟨hi, hs⟩ := List.mem_filter.mp hi
    obtain ⟨a, b, c⟩ := lvlQ_mem h0
    obtain ⟨hn, _⟩ := Bool.and_eq_true_iff.mp hs
    have hn : i ∉ c0 := by simpa using hn
    refine ⟨by rw [List.length_append, a]; rfl, ?_, fun x hx => ?_⟩
    · rw [List.nodup_append]
      refine ⟨b, by simp, fun x hx y hy => ?_⟩
      rw [List.mem_singleton.mp hy]
      exact fun z => hn (z ▸ hx)
    · rcases List.mem_append.mp hx with h | h
      · exact c x h
      · rw [List.mem_singleton.mp h]; exact List.mem_range.mp hi
theorem mapG_app2 {os : List Row} : ∀ {r1 : List Row} {c1 : List Nat} {r2 : List Row} {c2 : List Nat} {o : Option Mp}, r1.length = c1.length → mapG os (r1 ++ r2) (c1 ++ c2) o = mapG os r2 c2 (mapG os r1 c1 o)
  | [], [], _, _, o, _ => by simp [mapG]
  | [], _ :: _, _, _, _, h => by cases h
  | _ :: _, [], _, _, _, h => by cases h
  | a :: rs, b :: ch, r2, c2, o, h => by
    rw [List.cons_append, List.cons_append]
    unfold mapG
    rw [mapG_app2 (Nat.succ.inj h)]
    cases r2 <;> cases c2 <;> rfl
theorem bakG_app2 {os : List Row} : ∀ {r1 : List Row} {c1 : List Nat} {r2 : List Row} {c2 : List Nat} {o : Option Mp}, r1.length = c1.length → bakG os (r1 ++ r2) (c1 ++ c2) o = bakG os r2 c2 (bakG os r1 c1 o)
  | [], [], _, _, o, _ => by simp [bakG]
  | [], _ :: _, _, _, _, h => by cases h
  | _ :: _, [], _, _, _, h => by cases h
  | a :: rs, b :: ch, r2, c2, o, h => by
    rw [List.cons_append, List.cons_append]
    unfold bakG
    rw [bakG_app2 (Nat.succ.inj h)]
    cases r2 <;> cases c2 <;> rfl
theorem half_pre {T U : Pat} {ch : List Nat} {m b : Mp} (hl : ch.length = T.rows.length) (h1 : mapG U.rows T.rows ch (bnd [] T.grp U.grp) = some m) (h2 : bakG U.rows T.rows ch (bnd [] U.grp T.grp) = some b) (k : Nat) : half T U (ch.take k) = true := by
  have le : (T.rows.take k).length = (ch.take k).length := by rw [List.length_take, List.length_take, hl]
  have et : T.rows.take (ch.take k).length = T.rows.take k := by
    rw [List.length_take, hl]
    by_cases z : k ≤ T.rows.length
    · rw [Nat.min_eq_left z]
    · rw [Nat.min_eq_right (by omega), List.take_length, List.take_of_length_le (by omega)]
  unfold half
  rw [et, Bool.and_eq_true_iff]
  rw [← List.take_append_drop k T.rows, ← List.take_append_drop k ch] at h1 h2
  rw [mapG_app2 le] at h1
  rw [bakG_app2 le] at h2
  constructor
  · cases e : mapG U.rows (T.rows.take k) (ch.take k) (bnd [] T.grp U.grp) with
    | none => rw [e, mapG_none] at h1; cases h1
    | some _ => rfl
  · cases e : bakG U.rows (T.rows.take k) (ch.take k) (bnd [] U.grp T.grp) with
    | none => rw [e, bakG_none] at h2; cases h2
    | some _ => rfl
theorem lvlQ_of {T U : Pat} {ch : List Nat} (h : Prg T U ch) : ∀ {k : Nat}, k ≤ T.rows.length → ch.take k ∈ lvlQ T U k
  | 0, _ => List.mem_singleton.mpr (List.take_zero ..)
  | k + 1, hk => by
    obtain ⟨hn, hl, nd, lt, m, b, h1, h2, _⟩ := id h
    obtain ⟨i, hi⟩ : ∃ i, ch[k]? = some i := ⟨_, List.getElem?_eq_getElem (by omega)⟩
    have e := take_snoc hi
    rw [e]
    refine List.mem_flatMap.mpr ⟨ch.take k, lvlQ_of h (by omega), List.mem_map.mpr ⟨i, List.mem_filter.mpr ⟨List.mem_range.mpr (lt i (List.mem_of_getElem? hi)), ?_⟩, rfl⟩⟩
    rw [← e, half_pre hl h1 h2, Bool.and_true]
    have : i ∉ ch.take k := fun z => by
      have nd2 : (ch.take (k + 1)).Nodup := nd.sublist (List.take_sublist _ _)
      rw [e, List.nodup_append] at nd2
      exact nd2.2.2 i z i (List.mem_singleton.mpr rfl) rfl
    simp [this]
theorem sameQ_iff (T U : Pat) : sameQ T U = true ↔ ∃ ch, Prg T U ch := by
  unfold sameQ
  rw [Bool.and_eq_true_iff, decide_eq_true_eq, List.any_eq_true]
  constructor
  · rintro ⟨hn, ch, hc, hp⟩
    obtain ⟨a, b, c⟩ := lvlQ_mem hc
    exact ⟨ch, (isPr_iff hn a b c).mp hp⟩
  · rintro ⟨ch, h⟩
    obtain ⟨hn, hl, nd, lt, _⟩ := id h
    refine ⟨hn, ch, ?_, (isPr_iff hn hl nd lt).mpr h⟩
    have := lvlQ_of h (Nat.le_refl _)
    rwa [List.take_of_length_le (by omega)] at this
def spHalves : Sp := fun vs H Q _ => ∃ (a b L : Addr) (T U : Pat) (A G W A' G' W' : Addr) (xs ws xs' ws' : List V) (ch : List Nat), vs = [.ref a, .ref b, .ref L] ∧ LfAt H a T A G W xs ws ∧ LfAt H b U A' G' W' xs' ws' ∧ H L = some (.lst (chV ch)) ∧ PatS T ∧ PatS U ∧ ch.length ≤ T.rows.length ∧ (∀ i ∈ ch, i < U.rows.length) ∧
  ∀ H', Kp [] H H' → Q (.bl (half T U ch)) H'
def spSameN : Sp := fun vs H Q _ => ∃ (a b : Addr) (T U : Pat) (A G W A' G' W' : Addr) (xs ws xs' ws' : List V), vs = [.ref a, .ref b] ∧ LfAt H a T A G W xs ws ∧ LfAt H b U A' G' W' xs' ws' ∧ PatS T ∧ PatS U ∧
  ∀ H', Kp [] H H' → Q (.bl (sameQ T U)) H'
section
variable {P : Program} {w : World} {K : PySem.W.Frag} {mg : Str → Option Value} {base : Heap}
theorem ok_halves (B : Bi mg) (D : Dfn K mg "_law_halves" s__law_halves ["_law_one", "_law_other", "_law_chosen"]) (G_sent : Has P w K mg base CX0 "_law_sent" ["_law_known", "_law_symbols", "_law_targets"] 2 spBound)
    (G_map_over : Has P w K mg base CX0 "_law_map_over" ["_law_rows", "_law_group", "_law_other_rows", "_law_other_group", "_law_indexes"] 3 spMapOver) : Has P w K mg base CX0 "_law_halves" ["_law_one", "_law_other", "_law_chosen"] 4 spHalves := by
  refine D.has sc__law_halves (fun vs H Q E h => ?_) (fun f cdv A outer s H vs Q E hr h => ?_)
  · obtain ⟨a, b, L, T, U, A, G, W, A', G', W', xs, ws, xs', ws', ch, rfl, _⟩ := h; rfl
  · obtain ⟨a, b, L, T, U, A1, G1, W1, A2, G2, W2, xs, ws, ys, vs2, ch, rfl, LT, LU, hL, sT, sU, lc, lt, k⟩ := h
    have hu := hu_of hr
    refine ⟨_, (pss_cons (ps_set (i := 3) sc__law_halves.nd rfl (by first | exact Or.inl rfl | exact Or.inr rfl) (pe_has G_map_over (hr.mono (by omega)) (pa_cons (pe_slice sl_tupA (pe_ix ix_list (pv 0) pe_int (fun _ _ => rfl)) po_none (po_some (pe_callB call_len (by rfl) B.len PySem.boot_len (pa_cons (pv 2) pa_nil)))) (pa_cons (pe_ix ix_list (pv 0) pe_int (fun _ _ => rfl)) (pa_cons (pe_ix ix_list (pv 1) pe_int (fun _ _ => rfl)) (pa_cons (pe_ix ix_list (pv 1) pe_int (fun _ _ => rfl)) (pa_cons (pv 2) pa_nil)))))))
  (pss_cons (ps_if (pt_cmpR op_isN (pv 3) pe_non (nomark _))
  (pss_one (ps_ret pe_bl))
  pss_nil)
  (pss_cons (ps_set (i := 4) sc__law_halves.nd rfl (by first | exact Or.inl rfl | exact Or.inr rfl) (pe_has G_sent (hr.mono (by omega)) (pa_cons pe_dnewK (pa_cons (pe_ix ix_list (pv 1) pe_int (fun _ _ => rfl)) (pa_cons (pe_ix ix_list (pv 0) pe_int (fun _ _ => rfl)) pa_nil)))))
  (pss_cons (ps_for PassesOwn.never rfl (pi_range1 rfl B.range (pa_cons (pe_callB call_len (by rfl) B.len PySem.boot_len (pa_cons (pv 2) pa_nil)) pa_nil)) (pg_name (i := 5) sc__law_halves.nd rfl (by first | exact Or.inl rfl | exact Or.inr rfl))
  (pss_one (ps_if (pt_cmpR op_notN (pv 4) pe_non (nomark _))
  (pss_one (ps_set (i := 4) sc__law_halves.nd rfl (by first | exact Or.inl rfl | exact Or.inr rfl) (pe_has G_sent (hr.mono (by omega)) (pa_cons (pv 4) (pa_cons (pe_ix (r := rIxT K) ix_tup (pe_ix (r := rIxT K) ix_tup (pe_ix ix_list (pv 1) pe_int (fun _ _ => rfl)) (pe_ix ix_list (pv 2) (pv 5) (fun _ _ => rfl)) (fun _ _ => rfl)) pe_int (fun _ _ => rfl)) (pa_cons (pe_ix (r := rIxT K) ix_tup (pe_ix (r := rIxT K) ix_tup (pe_ix ix_list (pv 0) pe_int (fun _ _ => rfl)) (pv 5) (fun _ _ => rfl)) pe_int (fun _ _ => rfl)) pa_nil))))))
  pss_nil)))
  (pss_one (ps_ret (pe_cmpR op_notN (pv 4) pe_non (nomark _)))))))), ?_⟩
    obtain ⟨r6, r4, g3, p24, _, _⟩ := id sT.1
    obtain ⟨o6, o4, h3, _, _, _⟩ := id sU.1
    have lxs : xs.length = T.rows.length := by rw [LT.ix.len, List.length_map]
    have lys : ys.length = U.rows.length := by rw [LU.ix.len, List.length_map]
    have lch : (chV ch).length = ch.length := List.length_map ..
    have hsz : sizeLine = 16777216 := rfl
    refine ⟨_, rfl, a, _, 0, .ref A1, rfl, rfl, SqL.of LT.at_, rfl, _, rfl, _, _, rfl, .inl ⟨_, SqL.of hL, rfl⟩, _, rfl, ?_⟩
    rw [lch]
    refine slA_in LT.rows fun l H1 k1 hl => ?_
    have LT1 := LT.kp k1 (fun z => nomatch z)
    have LU1 := LU.kp k1 (fun z => nomatch z)
    have hL1 := k1.at_ _ _ hL (fun z => nomatch z)
    refine ⟨_, rfl, a, _, 1, .ref G1, rfl, rfl, SqL.of LT1.at_, rfl, _, rfl, b, _, 0, .ref A2, rfl, rfl, SqL.of LU1.at_, rfl, _, rfl, b, _, 1, .ref G2, rfl, rfl, SqL.of LU1.at_, rfl, _, rfl, ?_⟩
    have ix1 : ImAll H1 2 (xs.take ch.length) ((T.rows.take ch.length).map dPR) := by
      rw [List.map_take]
      exact imAll_take LT1.ix ch.length
    have lt2 : (T.rows.take ch.length).length = ch.length := by rw [List.length_take]; omega
    refine ⟨l, A2, G1, G2, L, _, ys, T.rows.take ch.length, U.rows, T.grp, U.grp, ch, rfl, hl, ix1, LU1.rows, LU1.ix, LT1.grp, LU1.grp, .inl (.inl hL1), lt2.symm, lt, by omega, o6, fun r hr => r4 r (List.mem_of_mem_take hr), g3, fun v H2 k2 kn => ?_⟩
    have k12 := k1.trans k2
    unfold half at k
    rcases kn with ⟨e1, rfl⟩ | ⟨_, m, e1, rfl, _⟩
    · refine ⟨_, rfl, rfl, _, rfl, iteT ?_⟩
      have := k H2 k12
      rw [e1] at this
      exact this
    · rw [e1] at k
      refine ⟨_, rfl, rfl, _, rfl, iteF ?_⟩
      have LT2 := LT1.kp k2 (fun z => nomatch z)
      have LU2 := LU1.kp k2 (fun z => nomatch z)
      intro D0 hD0
      have k3 : Kp [] H2 (upd H2 D0 (.dK [])) := Kp.new hD0
      have LT3 := LT2.kp k3 (fun z => nomatch z)
      have LU3 := LU2.kp k3 (fun z => nomatch z)
      refine ⟨_, rfl, b, _, 1, .ref G2, rfl, rfl, SqL.of LU3.at_, rfl, _, rfl, a, _, 1, .ref G1, rfl, rfl, SqL.of LT3.at_, rfl, ?_⟩
      dsimp only [tNil]
      refine sent_in (m := []) (n := 0) upd_same (Nat.le_refl _) (by decide) LU3.grp LT3.grp (by omega) fun v1 H4 k4 kn1 => ?_
      have k34 := k3.trans k4
      have k14 := k12.trans k34
      have LT4 := LT2.kp k34 (fun z => nomatch z)
      have LU4 := LU2.kp k34 (fun z => nomatch z)
      have hL4 := k14.at_ _ _ hL (fun z => nomatch z)
      refine ⟨_, rfl, _, _, rfl, .inl ⟨_, SqL.of hL4, rfl⟩, ((chV ch).length : Int), rfl, by omega, by omega, ?_⟩
      rw [lch]
      refine for_range (lo := 0) (n := (ch.length : Int).toNat) (fun i σ H' => (∃ v o6, σ = [some (.ref a), some (.ref b), some (.ref L), some (.ref _), some v, o6] ∧ ∃ o, KnV H' v o (3 + 4 * i) ∧ bakG U.rows (T.rows.take ch.length) ch (bnd [] U.grp T.grp) = bakG U.rows ((T.rows.take ch.length).drop i) (ch.drop i) o) ∧ Kp [] H4 H') ⟨⟨v1, _, rfl, bnd [] U.grp T.grp, ?_, rfl⟩, Kp.refl _⟩ ?_ ?_
      · rcases kn1 with h | ⟨W, m, e1, e2, e3, e4⟩
        · exact .inl h
        · have := bnd_len e1
          exact .inr ⟨W, m, e1, e2, e3, by simp at this; omega⟩
      · rintro i σ H5 hi ⟨⟨v, o6', rfl, o, kn, eg⟩, k5⟩
        have hi : i < ch.length := by omega
        obtain ⟨r, er⟩ : ∃ r, (T.rows.take ch.length)[i]? = some r := ⟨_, List.getElem?_eq_getElem (by omega)⟩
        have er' : T.rows[i]? = some r := by rw [← er, List.getElem?_take_of_lt hi]
        obtain ⟨j, ej⟩ : ∃ j, ch[i]? = some j := ⟨_, List.getElem?_eq_getElem hi⟩
        have jl := lt j (List.mem_of_getElem? ej)
        obtain ⟨o1, eo⟩ : ∃ o1, U.rows[j]? = some o1 := ⟨_, List.getElem?_eq_getElem jl⟩
        rw [bakG_drop er ej] at eg
        rcases kn with ⟨rfl, rfl⟩ | ⟨W, mm, rfl, rfl, hW, lm⟩
        · refine ⟨_, rfl, rfl, _, rfl, iteF ?_⟩
          exact ⟨⟨_, _, rfl, none, .inl ⟨rfl, rfl⟩, eg⟩, k5⟩
        · refine ⟨_, rfl, rfl, _, rfl, iteT ?_⟩
          have LT5 := LT4.kp k5 (fun z => nomatch z)
          have LU5 := LU4.kp k5 (fun z => nomatch z)
          obtain ⟨a1, b1, hv1, ha1, hb1⟩ := row_at LT5.ix er'
          obtain ⟨a2, b2, hv2, ha2, hb2⟩ := row_at LU5.ix eo
          have e1 : atI xs (0 + (i : Int)) = some (.ref a1) := by rw [Int.zero_add]; exact atI_nat hv1
          have e2 : atI (chV ch) (0 + (i : Int)) = some (.int (j : Int)) := by rw [Int.zero_add]; exact atI_nat (chV_at ej)
          have e3 : atI ys ((j : Nat) : Int) = some (.ref a2) := atI_nat hv2
          have es : bakS U.rows r j (some mm) = bnd mm o1.2 r.2 := by unfold bakS; simp only [eo]
          rw [es] at eg
          have hL5 := k5.at_ _ _ hL4 (fun z => nomatch z)
          refine ⟨_, rfl, _, rfl, b, _, 0, .ref A2, rfl, rfl, SqL.of LU5.at_, rfl, _, rfl, _, rfl, L, _, _, _, rfl, rfl, SqL.of hL5, e2, A2, ys, _, _, rfl, rfl, .inl (.inl LU5.rows), e3, a2, _, 1, _, rfl, rfl, .inl (.inl ha2), rfl, ?_⟩
          refine ⟨_, rfl, a, _, 0, .ref A1, rfl, rfl, SqL.of LT5.at_, rfl, _, rfl, A1, xs, _, _, rfl, rfl, .inl (.inl LT5.rows), e1, a1, _, 1, _, rfl, rfl, .inl (.inl ha1), rfl, ?_⟩
          dsimp only [tNil]
          refine sent_in (n := 3 + 4 * i) hW lm (by omega) hb2 hb1 (o4 o1 (List.mem_of_getElem? eo)) fun v3 H6 k6 kn3 => ?_
          exact ⟨⟨v3, _, rfl, _, by rw [show 3 + 4 * (i + 1) = 3 + 4 * i + 4 by omega]; exact kn3, eg⟩, k5.trans k6⟩
      · rintro σ H5 ⟨⟨v, o6', rfl, o, kn, eg⟩, k5⟩
        rw [Int.toNat_natCast, List.drop_length] at eg
        have eg : bakG U.rows (T.rows.take ch.length) ch (bnd [] U.grp T.grp) = o := by
          rw [eg]
          cases (T.rows.take ch.length).drop ch.length <;> rfl
        rw [eg] at k
        have := k H5 (k14.trans k5)
        refine ⟨_, rfl, rfl, ?_⟩
        rcases kn with ⟨rfl, rfl⟩ | ⟨W, mm, rfl, rfl, _, _⟩
        · exact this
        · exact this
theorem ok_same_names (B : Bi mg) (D : Dfn K mg "_law_same_names" s__law_same_names ["_law_one", "_law_other"]) (G_halves : Has P w K mg base CX0 "_law_halves" ["_law_one", "_law_other", "_law_chosen"] 4 spHalves)
    (G_is_pairing : Has P w K mg base CX0 "_law_is_pairing" ["_law_one", "_law_other", "_law_thing"] 5 spIsPairing) : Has P w K mg base CX0 "_law_same_names" ["_law_one", "_law_other"] 6 spSameN := by
  refine D.has sc__law_same_names (fun vs H Q E h => ?_) (fun f cdv A outer s H vs Q E hr h => ?_)
  · obtain ⟨a, b, T, U, A, G, W, A', G', W', xs, ws, xs', ws', rfl, _⟩ := h; rfl
  · obtain ⟨a, b, T, U, A1, G1, W1, A2, G2, W2, xs, ws, ys, vs2, rfl, LT, LU, sT, sU, k⟩ := h
    have hu := hu_of hr
    refine ⟨_, (pss_cons (ps_if (pt_cmpR op_ne (pe_callB call_len (by rfl) B.len PySem.boot_len (pa_cons (pe_ix ix_list (pv 0) pe_int (fun _ _ => rfl)) pa_nil)) (pe_callB call_len (by rfl) B.len PySem.boot_len (pa_cons (pe_ix ix_list (pv 1) pe_int (fun _ _ => rfl)) pa_nil)) (nomark _))
  (pss_one (ps_ret pe_bl))
  pss_nil)
  (pss_cons (ps_set (i := 2) sc__law_same_names.nd rfl (by first | exact Or.inl rfl | exact Or.inr rfl) (pe_lst (pa_cons (pe_lst pa_nil) pa_nil)))
  (pss_cons (ps_for PassesOwn.never rfl (pi_range1 rfl B.range (pa_cons (pe_callB call_len (by rfl) B.len PySem.boot_len (pa_cons (pe_ix ix_list (pv 0) pe_int (fun _ _ => rfl)) pa_nil)) pa_nil)) (pg_name (i := 3) sc__law_same_names.nd rfl (by first | exact Or.inl rfl | exact Or.inr rfl))
  (pss_cons (ps_set (i := 4) sc__law_same_names.nd rfl (by first | exact Or.inl rfl | exact Or.inr rfl) (pe_lst pa_nil))
  (pss_cons (ps_for PassesOwn.never rfl (pi_list (pv 2)) (pg_name (i := 5) sc__law_same_names.nd rfl (by first | exact Or.inl rfl | exact Or.inr rfl))
  (pss_one (ps_for PassesOwn.never rfl (pi_range1 rfl B.range (pa_cons (pe_callB call_len (by rfl) B.len PySem.boot_len (pa_cons (pe_ix ix_list (pv 1) pe_int (fun _ _ => rfl)) pa_nil)) pa_nil)) (pg_name (i := 6) sc__law_same_names.nd rfl (by first | exact Or.inl rfl | exact Or.inr rfl))
  (pss_one (ps_if (PW.pt (pw_and (pt_cmpR op_notIn_seq (pv 6) (pv 5) (by rfl)) (pw_and1 (pt_val (pe_has G_halves (hr.mono (by omega)) (pa_cons (pv 0) (pa_cons (pv 1) (pa_cons (pe_op op_cat (pv 5) (pe_lst (pa_cons (pv 6) pa_nil))) pa_nil))))))))
  (pss_one (ps_expr (pe_bm PySem.F.plainAttrs_list PySem.F.slot_list_append PySem.F.type_list_append mt_append (pv 4) (pa_cons (pe_op op_cat (pv 5) (pe_lst (pa_cons (pv 6) pa_nil))) pa_nil))))
  pss_nil)))))
  (pss_one (ps_set (i := 2) sc__law_same_names.nd rfl (by first | exact Or.inl rfl | exact Or.inr rfl) (pv 4))))))
  (pss_cons (ps_for PassesOwn.never rfl (pi_list (pv 2)) (pg_name (i := 5) sc__law_same_names.nd rfl (by first | exact Or.inl rfl | exact Or.inr rfl))
  (pss_one (ps_if (pt_val (pe_has G_is_pairing (hr.mono (by omega)) (pa_cons (pv 0) (pa_cons (pv 1) (pa_cons (pe_callTy call_tupleN (by rfl) B.tuple (by decide +kernel) (pa_cons (pv 5) pa_nil)) pa_nil)))))
  (pss_one (ps_ret pe_bl))
  pss_nil)))
  (pss_one (ps_ret pe_bl)))))), ?_⟩
    obtain ⟨r6, r4, g3, p24, _, _⟩ := id sT.1
    obtain ⟨o6, o4, h3, _, _, _⟩ := id sU.1
    have lxs : xs.length = T.rows.length := by rw [LT.ix.len, List.length_map]
    have lys : ys.length = U.rows.length := by rw [LU.ix.len, List.length_map]
    have hsz : sizeLine = 16777216 := rfl
    refine ⟨_, rfl, a, _, 0, .ref A1, rfl, rfl, SqL.of LT.at_, rfl, _, _, rfl, .inr ⟨_, .inl (.inl LT.rows), rfl⟩, _, rfl, b, _, 0, .ref A2, rfl, rfl, SqL.of LU.at_, rfl, _, _, rfl, .inr ⟨_, .inl (.inl LU.rows), rfl⟩, rfl, _, rfl, ?_⟩
    rw [lxs, lys]
    unfold sameQ at k
    by_cases hn : T.rows.length = U.rows.length
    case neg =>
      rw [decide_eq_false hn, Bool.false_and] at k
      exact iteTs (by rw [decide_eq_false (fun z => hn (by injection z with z; omega))]; rfl) (k H (Kp.refl _))
    rw [decide_eq_true hn, Bool.true_and] at k
    refine iteFs (by rw [hn, decide_eq_true rfl]; rfl) ?_
    refine ⟨by show 0 ≤ sizeLine; decide, fun e0 he0 => ⟨by show 1 ≤ sizeLine; decide, fun Bg hBg => ?_⟩⟩
    have k0 : Kp [] H (upd (upd H e0 (.lst [])) Bg (.lst [.ref e0])) := (Kp.new he0).snoc hBg
    have c0 : ChAll (fun _ => True) (upd (upd H e0 (.lst [])) Bg (.lst [.ref e0])) [.ref e0] [[]] := .cons trivial ((Kp.new (ms := []) hBg).at_ _ _ (upd_same (H := H)) (fun z => nomatch z)) .nil
    have LT0 := LT.kp k0 (fun z => nomatch z)
    refine ⟨_, rfl, a, _, 0, .ref A1, rfl, rfl, SqL.of LT0.at_, rfl, _, _, rfl, .inr ⟨_, .inl (.inl LT0.rows), rfl⟩, (xs.length : Int), rfl, by omega, by omega, ?_⟩
    refine for_range (lo := 0) (n := (xs.length : Int).toNat) (fun i σ H' => (∃ Bg o3 o4 o5 o6 us, σ = [some (.ref a), some (.ref b), some (.ref Bg), o3, o4, o5, o6] ∧ H' Bg = some (.lst us) ∧ ChAll (fun _ => True) H' us (lvlQ T U i)) ∧ Kp [] H H') ⟨⟨Bg, _, _, _, _, _, rfl, upd_same, c0⟩, k0⟩ ?_ ?_
    · rintro i σ H2 hi ⟨⟨Bg, o3, o4', o5, o6', us, rfl, hBg, cu⟩, k2⟩
      have hi : i < T.rows.length := by omega
      refine ⟨by show 0 ≤ sizeLine; decide, fun L hL => ?_⟩
      have kL : Kp [] H2 (upd H2 L (.lst [])) := Kp.new hL
      refine ⟨_, rfl, Bg, rfl, ⟨_, SqL.of (kL.at_ _ _ hBg (fun z => nomatch z))⟩, ?_⟩
      have lus : us.length ≤ 6 ^ i := by rw [cu.len]; exact lvlQ_take o6 i
      have l6 : 6 ^ i ≤ 6 ^ 5 := Nat.pow_le_pow_right (by decide) (by omega)
      have l6 : 6 ^ i ≤ 7776 := l6
      refine for_it (walk_list (xs := us)) (fun j σ H' => (∃ o5 o6 zs, σ = [some (.ref a), some (.ref b), some (.ref Bg), some (.int (0 + (i : Int))), some (.ref L), o5, o6] ∧ H' L = some (.lst zs) ∧ ChAll (· ≠ L) H' zs (((lvlQ T U i).take j).flatMap (extQ T U U.rows.length))) ∧ Kp [] H2 H') ⟨⟨_, _, _, rfl, upd_same, .nil⟩, kL⟩ (fun j σ H' _ h => SqL.of (h.2.at_ _ _ hBg (fun z => nomatch z))) ?_ ?_
      · rintro j v σ H3 H4 hj ⟨⟨o5', o6'', zs, rfl, hL3, cz⟩, k3⟩ ⟨rfl, hv⟩
        obtain ⟨c1, ch, rfl, ech, hc1, _⟩ := cu.getV hv
        obtain ⟨hch, ndc, ltc⟩ := lvlQ_mem (List.mem_of_getElem? ech)
        have LU3 := LU.kp (k2.trans k3) (fun z => nomatch z)
        refine ⟨_, rfl, b, _, 0, .ref A2, rfl, rfl, SqL.of LU3.at_, rfl, _, _, rfl, .inr ⟨_, .inl (.inl LU3.rows), rfl⟩, (ys.length : Int), rfl, by omega, by omega, ?_⟩
        rw [lys]
        refine for_range (lo := 0) (n := (U.rows.length : Int).toNat) (fun m σ H' => (∃ o6 zs, σ = [some (.ref a), some (.ref b), some (.ref Bg), some (.int (0 + (i : Int))), some (.ref L), some (.ref c1), o6] ∧ H' L = some (.lst zs) ∧ ChAll (· ≠ L) H' zs (((lvlQ T U i).take j).flatMap (extQ T U U.rows.length) ++ extQ T U m ch)) ∧ Kp [] H2 H') ⟨⟨_, zs, rfl, hL3, by rw [show extQ T U 0 ch = [] from rfl, List.append_nil]; exact cz⟩, k3⟩ ?_ ?_
        · rintro m σ H5 hm ⟨⟨o6', zs5, rfl, hL5, cz5⟩, k5⟩
          have hm : m < U.rows.length := by omega
          have k25 := k2.trans k5
          have hc5 := k5.at_ _ _ hc1 (fun z => nomatch z)
          have em : (0 + (m : Int)) = ((m : Nat) : Int) := Int.zero_add _
          rw [em]
          refine ⟨_, rfl, _, rfl, c1, _, rfl, .inl (SqL.of hc5), rfl, flat_chV ch, _, rfl, ?_⟩
          rw [inV_chV]
          by_cases hin : m ∈ ch
          · rw [decide_eq_true hin]
            refine iteF ⟨⟨_, zs5, rfl, hL5, ?_⟩, k5⟩
            rw [extQ_succ, decide_eq_true hin]
            simp only [Bool.not_true, Bool.false_and, Bool.false_eq_true, if_false, List.append_nil]
            exact cz5
          rw [decide_eq_false hin]
          refine iteT ?_
          refine ⟨_, rfl, _, rfl, _, rfl, _, rfl, by show 1 ≤ sizeLine; decide, fun q hq => ?_⟩
          have kq : Kp [] H5 (upd H5 q (.lst [.int ((m : Nat) : Int)])) := Kp.new hq
          refine ⟨c1, q, chV ch, [.int ((m : Nat) : Int)], rfl, rfl, kq.at_ _ _ hc5 (fun z => nomatch z), upd_same, by unfold chV; rw [List.length_map]; show ch.length + 1 ≤ sizeLine; omega, fun p hp => ?_⟩
          rw [chV_snocP]
          have k7 : Kp [] H5 (upd (upd H5 q (.lst [.int ((m : Nat) : Int)])) p (.lst (chV (ch ++ [m])))) := kq.snoc hp
          generalize h7 : upd (upd H5 q (.lst [.int ((m : Nat) : Int)])) p (.lst (chV (ch ++ [m]))) = H7 at k7
          have hp7 : H7 p = some (.lst (chV (ch ++ [m]))) := by rw [← h7]; exact upd_same
          have k27 := k25.trans k7
          refine ⟨a, b, p, T, U, A1, G1, W1, A2, G2, W2, xs, ws, ys, vs2, ch ++ [m], rfl, LT.kp k27 (fun z => nomatch z), LU.kp k27 (fun z => nomatch z), hp7, sT, sU, by rw [List.length_append, hch]; show i + 1 ≤ _; omega, fun x hx => ?_, fun H8 k8 => ⟨_, rfl, ?_⟩⟩
          · rcases List.mem_append.mp hx with h | h
            · exact ltc x h
            · rw [List.mem_singleton.mp h]; exact hm
          have k58 := k7.trans k8
          have hL8 := k58.at_ _ _ hL5 (fun z => nomatch z)
          have hc8 := k58.at_ _ _ hc5 (fun z => nomatch z)
          by_cases hh : half T U (ch ++ [m]) = true
          · rw [hh]
            refine iteT ?_
            refine ⟨_, rfl, .inl ⟨rfl, _, SqL.of hL8⟩, _, rfl, _, rfl, by show 1 ≤ sizeLine; decide, fun q2 hq2 => ?_⟩
            have kq2 : Kp [] H8 (upd H8 q2 (.lst [.int ((m : Nat) : Int)])) := Kp.new hq2
            refine ⟨c1, q2, chV ch, [.int ((m : Nat) : Int)], rfl, rfl, kq2.at_ _ _ hc8 (fun z => nomatch z), upd_same, by unfold chV; rw [List.length_map]; show ch.length + 1 ≤ sizeLine; omega, fun p2 hp2 => ?_⟩
            rw [chV_snocP]
            have k9 : Kp [] H8 (upd (upd H8 q2 (.lst [.int ((m : Nat) : Int)])) p2 (.lst (chV (ch ++ [m])))) := kq2.snoc hp2
            generalize h9 : upd (upd H8 q2 (.lst [.int ((m : Nat) : Int)])) p2 (.lst (chV (ch ++ [m]))) = H9 at k9
            have hp9 : H9 p2 = some (.lst (chV (ch ++ [m]))) := by rw [← h9]; exact upd_same
            have hL9 := k9.at_ _ _ hL8 (fun z => nomatch z)
            have lz : zs5.length < sizeLine := by
              have e1 := cz5.len
              rw [List.length_append] at e1
              have e2 := flat_len (f := extQ T U U.rows.length) (n := 6) (fun a => Nat.le_trans (extQ_len ..) o6) ((lvlQ T U i).take j)
              have e3 := extQ_len T U m ch
              have e4 : ((lvlQ T U i).take j).length ≤ 7776 := Nat.le_trans (List.length_take_le' ..) (by rw [← cu.len]; omega)
              omega
            refine ⟨L, zs5, _, rfl, rfl, hL9, lz, ?_⟩
            have p2L : p2 ≠ L := fun z => by rw [z] at hp2; exact ne_of_none (kq2.at_ _ _ hL8 (fun z => nomatch z)) hp2 rfl
            have kLL : Kp [L] H9 (upd H9 L (.lst (zs5 ++ [.ref p2]))) := Kp.updL hL9 (by simp)
            refine ⟨⟨_, _, rfl, upd_same, ?_⟩, ((k5.trans k58).trans k9).late hL⟩
            rw [extQ_succ, decide_eq_false hin, hh, ← List.append_assoc]
            refine ChAll.snoc (S := (· ≠ L)) (a := p2) (ch := ch ++ [m]) p2L (kLL.at_ _ _ hp9 (by simpa using p2L)) ?_
            exact (cz5.kp (k58.trans k9) (fun x hx => nomatch hx)).kp kLL (fun x hx => by rw [List.mem_singleton.mp hx]; exact fun z => z rfl)
          · have hh : half T U (ch ++ [m]) = false := Bool.eq_false_iff.mpr hh
            rw [hh]
            refine iteF ⟨⟨_, zs5, rfl, hL8, ?_⟩, k5.trans k58⟩
            rw [extQ_succ, hh]
            simp only [Bool.and_false, Bool.false_eq_true, if_false, List.append_nil]
            exact cz5.kp k58 (fun x hx => nomatch hx)
        · rintro σ H5 ⟨⟨o6', zs5, rfl, hL5, cz5⟩, k5⟩
          refine ⟨⟨_, _, zs5, rfl, hL5, ?_⟩, k5⟩
          rw [Int.toNat_natCast] at cz5
          rw [take_snoc ech, List.flatMap_append, List.flatMap_singleton]
          exact cz5
      · rintro σ H3 ⟨⟨o5', o6'', zs, rfl, hL3, cz⟩, k3⟩
        refine ⟨_, rfl, ⟨L, _, _, _, _, zs, rfl, hL3, ?_⟩, k2.trans k3⟩
        rw [cu.len, List.take_length] at cz
        exact cz.imp fun _ _ => trivial
    · rintro σ H2 ⟨⟨Bg, o3, o4', o5, o6', us, rfl, hBg, cu⟩, k2⟩
      rw [Int.toNat_natCast, lxs] at cu
      refine ⟨_, rfl, Bg, rfl, ⟨_, SqL.of hBg⟩, ?_⟩
      refine for_it (walk_list (xs := us)) (fun j σ H' => (∃ o5, σ = [some (.ref a), some (.ref b), some (.ref Bg), o3, o4', o5, o6'] ∧ ((lvlQ T U T.rows.length).take j).any (isPr T U) = false) ∧ Kp [] H2 H') ⟨⟨_, rfl, rfl⟩, Kp.refl _⟩ (fun j σ H' _ h => SqL.of (h.2.at_ _ _ hBg (fun z => nomatch z))) ?_ ?_
      · rintro j v σ H3 H4 hj ⟨⟨o5', rfl, hno⟩, k3⟩ ⟨rfl, hv⟩
        obtain ⟨c1, ch, rfl, ech, hc1, _⟩ := cu.getV hv
        obtain ⟨hch, ndc, ltc⟩ := lvlQ_mem (List.mem_of_getElem? ech)
        have hc3 := k3.at_ _ _ hc1 (fun z => nomatch z)
        refine ⟨_, rfl, _, rfl, _, rfl, c1, _, rfl, SqL.of hc3, fun l ol hl hol => ?_⟩
        have k4 := k3.snoc (o := .frz ol (.tup (chV ch))) hl
        have k24 := k2.trans k4
        refine ⟨a, b, l, T, U, A1, G1, W1, A2, G2, W2, xs, ws, ys, vs2, ch, rfl, LT.kp k24 (fun z => nomatch z), LU.kp k24 (fun z => nomatch z), .inr ⟨ol, hol, upd_same⟩, sT, sU, hn, hch, ndc, ltc, fun H5 k5 => ⟨_, rfl, ?_⟩⟩
        have k25 := k24.trans k5
        by_cases hp : isPr T U ch = true
        · rw [hp]
          refine iteT ?_
          have := k H5 k25
          rw [List.any_eq_true.mpr ⟨ch, List.mem_of_getElem? ech, hp⟩] at this
          exact this
        · have hp : isPr T U ch = false := Bool.eq_false_iff.mpr hp
          rw [hp]
          refine iteF ⟨⟨_, rfl, ?_⟩, k4.trans k5⟩
          rw [take_snoc ech, List.any_append, hno]
          simp [hp]
      · rintro σ H3 ⟨⟨o5', rfl, hno⟩, k3⟩
        rw [cu.len, List.take_length] at hno
        have := k H3 (k2.trans k3)
        rw [hno] at this
        exact this
end
end Fm

namespace Fm
open PySem PySem.Spec PyProof.Rows L2
/-! ### rows by what each is -/
def OkR (r : Str × List Key) : Prop := IsNm r.1 ∧ 1 ≤ r.2.length ∧ r.2.length ≤ 4 ∧ ∀ k ∈ r.2, SymOk k
def RI (ms : List Addr) (H : Hp) (v : V) : Prop := ∃ a b r, v = .ref a ∧ H a = some (.tup [.str r.1, .ref b]) ∧ H b = some (.lst (r.2.map kV)) ∧ b ∉ ms ∧ OkR r
def Rws (ms : List Addr) (H : Hp) (zs : List V) : Prop := ∀ v ∈ zs, RI ms H v
theorem Rws.kp {ms : List Addr} {H H' : Hp} {zs : List V} (h : Rws ms H zs) (k : Kp ms H H') : Rws ms H' zs := fun v hv =>
  let ⟨a, b, r, e, h1, h2, h3, h4⟩ := h v hv
  ⟨a, b, r, e, k.tp _ _ h1, k.at_ _ _ h2 h3, h3, h4⟩
theorem Rws.mono {ms ms' : List Addr} {H : Hp} {zs : List V} (h : Rws ms H zs) (m : ∀ x ∈ ms', x ∈ ms) : Rws ms' H zs := fun v hv =>
  let ⟨a, b, r, e, h1, h2, h3, h4⟩ := h v hv
  ⟨a, b, r, e, h1, h2, fun z => h3 (m _ z), h4⟩
theorem Rws.new {ms : List Addr} {H : Hp} {zs : List V} {S : Addr} (h : Rws ms H zs) (hS : H S = none) : Rws (S :: ms) H zs := fun v hv =>
  let ⟨a, b, r, e, h1, h2, h3, h4⟩ := h v hv
  ⟨a, b, r, e, h1, h2, fun z => (List.mem_cons.mp z).elim (fun z => by rw [z, hS] at h2; cases h2) h3, h4⟩
theorem Rws.sub {ms : List Addr} {H : Hp} {zs ys : List V} (h : Rws ms H zs) (s : ∀ v ∈ ys, v ∈ zs) : Rws ms H ys := fun v hv => h v (s v hv)
theorem Rws.app {ms : List Addr} {H : Hp} {zs ys : List V} (h : Rws ms H zs) (h' : Rws ms H ys) : Rws ms H (zs ++ ys) := fun v hv => (List.mem_append.mp hv).elim (h v) (h' v)
theorem Rws.raw {ms : List Addr} {H : Hp} : ∀ {zs : List V}, Rws ms H zs → ∃ ps, RawAll ms H zs ps ∧ ∀ r ∈ ps, OkR r
  | [], _ => ⟨[], .nil, fun _ h => nomatch h⟩
  | v :: zs, h => by
    obtain ⟨ps, h1, h2⟩ := Rws.raw (fun v hv => h v (List.mem_cons_of_mem _ hv))
    obtain ⟨a, b, r, rfl, e1, e2, e3, e4⟩ := h v List.mem_cons_self
    exact ⟨r :: ps, .cons e1 e2 e3 h1, fun x hx => (List.mem_cons.mp hx).elim (fun z => by rw [z]; exact e4) (h2 x)⟩
theorem RawAll.rws {ms : List Addr} {H : Hp} : ∀ {zs : List V} {ps : List (Str × List Key)}, RawAll ms H zs ps → (∀ r ∈ ps, OkR r) → Rws ms H zs
  | _, _, .nil, _ => fun _ h => nomatch h
  | _, _, .cons (r := r) a b c d, h => fun v hv => by
    rcases List.mem_cons.mp hv with rfl | hv
    · exact ⟨_, _, r, rfl, a, b, c, h r List.mem_cons_self⟩
    · exact d.rws (fun x hx => h x (List.mem_cons_of_mem _ hx)) v hv
/-- things dealt anew -/
def spShuffled : Sp := fun vs H Q _ => ∃ (b c L : Addr) (zs : List V), vs = [.ref b, .ref L] ∧ Bag H b c ∧ H L = some (.lst zs) ∧ L ≠ b ∧ zs.length ≤ 1000 ∧
  ∀ F found H', Bag H' b c → Kp [b] H H' → H F = none → H' F = some (.lst found) → found.Perm zs → Q (.ref F) H'
section
variable {P : Program} {w : World} {K : PySem.W.Frag} {mg : Str → Option Value} {base : Heap}
theorem ok_shuffled (B : Bi mg) (D : Dfn K mg "_law_shuffled" s__law_shuffled ["_law_bag_here", "_law_things"]) (G_pick : Has P w K mg base CX0 "_law_pick" ["_law_bag_here", "_law_many"] 1 spPick) : Has P w K mg base CX0 "_law_shuffled" ["_law_bag_here", "_law_things"] 2 spShuffled := by
  refine D.has sc__law_shuffled (fun vs H Q E h => ?_) (fun f cdv A outer s H vs Q E hr h => ?_)
  · obtain ⟨b, c, L, zs, rfl, _⟩ := h; rfl
  · obtain ⟨b, c, L, zs, rfl, BG, hL, Lb, l9, k⟩ := h
    have hu := hu_of hr
    refine ⟨_, (pss_cons (ps_set (i := 2) sc__law_shuffled.nd rfl (by first | exact Or.inl rfl | exact Or.inr rfl) (pe_callTy call_list_of (by rfl) B.list (by decide +kernel) (pa_cons (pv 1) pa_nil)))
  (pss_cons (ps_set (i := 3) sc__law_shuffled.nd rfl (by first | exact Or.inl rfl | exact Or.inr rfl) (pe_lst pa_nil))
  (pss_cons (ps_for PassesOwn.never rfl (pi_range1 rfl B.range (pa_cons (pe_callB call_len (by rfl) B.len PySem.boot_len (pa_cons (pv 1) pa_nil)) pa_nil)) (pg_name (i := 4) sc__law_shuffled.nd rfl (by first | exact Or.inl rfl | exact Or.inr rfl))
  (pss_one (ps_expr (pe_bm PySem.F.plainAttrs_list PySem.F.slot_list_append PySem.F.type_list_append mt_append (pv 3) (pa_cons (pe_bm PySem.F.plainAttrs_list PySem.F.slot_list_pop PySem.F.type_list_pop mt_popAt (pv 2) (pa_cons (pe_has G_pick (hr.mono (by omega)) (pa_cons (pv 0) (pa_cons (pe_callB call_len (by rfl) B.len PySem.boot_len (pa_cons (pv 2) pa_nil)) pa_nil))) pa_nil)) pa_nil)))))
  (pss_one (ps_ret (pv 3)))))), ?_⟩
    have ne_b : ∀ {x : Addr}, H x = none → x ≠ b := fun {x} h z => by
      obtain ⟨o, ho⟩ := BG.someB
      rw [← z, h] at ho; cases ho
    have ne_c : ∀ {x : Addr}, H x = none → x ≠ c := fun {x} h z => by
      obtain ⟨o, ho⟩ := BG.someC
      rw [← z, h] at ho; cases ho
    refine ⟨_, rfl, L, zs, rfl, .inl (SqL.of hL), fun Lf hLf => ⟨by show 0 ≤ sizeLine; decide, fun F hF => ?_⟩⟩
    have FL : F ≠ Lf := fun z => by rw [z, upd_same] at hF; cases hF
    have hFH : H F = none := by rw [upd_ne FL] at hF; exact hF
    have k0 : Kp [] H (upd (upd H Lf (.lst zs)) F (.lst [])) := (Kp.new hLf).snoc hF
    have Lfb := ne_b hLf
    have Lfc := ne_c hLf
    have Fb := ne_b hFH
    have Fc := ne_c hFH
    refine ⟨_, rfl, _, _, rfl, .inl ⟨_, SqL.of (k0.at_ _ _ hL (fun z => nomatch z)), rfl⟩, (zs.length : Int), rfl, by omega, by omega, ?_⟩
    refine for_range (lo := 0) (n := (zs.length : Int).toNat) (fun i σ H' => (∃ o4, σ = [some (.ref b), some (.ref L), some (.ref Lf), some (.ref F), o4]) ∧ Bag H' b c ∧ Kp [b] H H' ∧ ∃ left found, H' Lf = some (.lst left) ∧ H' F = some (.lst found) ∧ (found ++ left).Perm zs ∧ found.length = i) ⟨⟨_, rfl⟩, BG.keep0 k0, k0.zero, zs, [], by rw [upd_ne (Ne.symm FL)]; exact upd_same, upd_same, List.Perm.refl _, rfl⟩ ?_ ?_
    · rintro i σ H2 hi ⟨⟨o4, rfl⟩, B2, k2, left, found, hl2, hf2, pm, lf⟩
      have pl := pm.length_eq
      rw [List.length_append, lf] at pl
      have l0 : 0 < left.length := by omega
      refine ⟨_, rfl, .inl ⟨rfl, _, SqL.of hf2⟩, _, rfl, .inl ⟨rfl, _, SqL.of hl2⟩, _, rfl, _, rfl, _, _, rfl, .inl ⟨_, SqL.of hl2, rfl⟩, b, c, (left.length : Int), rfl, B2, by omega, by omega, fun v H3 v0 v1 B3 k3 => ?_⟩
      have hl3 := k3.at_ _ _ hl2 (by simpa using Lfb)
      have hf3 := k3.at_ _ _ hf2 (by simpa using Fb)
      have hv : v.toNat < left.length := by omega
      obtain ⟨y, hy⟩ : ∃ y, left[v.toNat]? = some y := ⟨_, List.getElem?_eq_getElem hv⟩
      have e0 : ((v.toNat : Nat) : Int) = v := Int.toNat_of_nonneg v0
      refine ⟨Lf, left, v, v.toNat, y, rfl, rfl, hl3, by omega, by omega, e0 ▸ (ixN_seq (ixN_nat hv)).1, hy, ?_⟩
      have kl : Kp [Lf] H3 (upd H3 Lf (.lst (left.eraseIdx v.toNat))) := Kp.updL hl3 (by simp)
      have hf4 := kl.at_ _ _ hf3 (by simpa using FL)
      refine ⟨F, found, y, rfl, rfl, hf4, small1000 (by omega), ⟨_, rfl⟩, ?_, ?_, left.eraseIdx v.toNat, found ++ [y], ?_, upd_same, ?_, by rw [List.length_append, lf]; rfl⟩
      · exact (B3.keep kl (by simpa using Ne.symm Lfb) (by simpa using Ne.symm Lfc)).keep (ms := [F]) (Kp.updL hf4 (by simp)) (by simpa using Ne.symm Fb) (by simpa using Ne.symm Fc)
      · exact (((k2.trans k3).late hLf)).late hFH
      · rw [upd_ne (Ne.symm FL)]; exact upd_same
      · refine List.Perm.trans ?_ pm
        rw [List.append_assoc]
        refine List.Perm.append_left found ?_
        obtain ⟨h1, h2⟩ := List.getElem?_eq_some_iff.mp hy
        have e : left = left.take v.toNat ++ y :: left.drop (v.toNat + 1) := by rw [← h2, List.getElem_cons_drop, List.take_append_drop]
        have p : (left.take v.toNat ++ y :: left.drop (v.toNat + 1)).Perm (y :: (left.take v.toNat ++ left.drop (v.toNat + 1))) := List.perm_middle
        rw [List.eraseIdx_eq_take_drop_succ]
        exact List.Perm.trans p.symm (by rw [← e])
    · rintro σ H2 ⟨⟨o4, rfl⟩, B2, k2, left, found, hl2, hf2, pm, lf⟩
      rw [Int.toNat_natCast] at lf
      have pl := pm.length_eq
      rw [List.length_append, lf] at pl
      have : left = [] := List.length_eq_zero_iff.mp (by omega)
      subst this
      rw [List.append_nil] at pm
      exact ⟨_, rfl, k F found H2 B2 k2 hFH hf2 pm⟩
end
end Fm

namespace Fm
open PySem PySem.Spec PyProof.Rows L2
def polF (us : List Str) (i : Nat) : Str := us[i]!
theorem polF_at {us : List Str} {i : Nat} (h : i < us.length) : us[i]? = some (polF us i) := by
  unfold polF
  rw [List.getElem?_eq_getElem h, getElem!_pos us i h]
theorem polF_inj {us : List Str} (h : Pool us) : Inj24 (polF us) := fun i j hi hj e => by
  obtain ⟨l, nd, _⟩ := h
  have a := List.getElem?_eq_some_iff.mp (polF_at (us := us) (i := i) (by omega))
  have b := List.getElem?_eq_some_iff.mp (polF_at (us := us) (i := j) (by omega))
  obtain ⟨a1, a2⟩ := a
  obtain ⟨b1, b2⟩ := b
  exact nodup_at nd a1 b1 (by rw [a2, b2]; exact e)
theorem polF_len {us : List Str} (h : Pool us) (i : Nat) : (polF us i).length ≤ 1000000 := by
  by_cases hi : i < us.length
  · have := List.mem_of_getElem? (polF_at hi)
    exact Nat.le_trans (txs_short _ (h.2.2 _ this)) (by decide)
  · unfold polF
    rw [getElem!_neg us i hi]
    decide
theorem Kp.unlockM {ms : List Addr} {H H2 : Hp} {p : Addr} {kvs : List (Key × V)} {od : Obj} (hp : H p = some (.dK kvs)) (k2 : Kp ms (upd H p (.frz od (.dK kvs))) H2) : Kp ms H (upd H2 p (.dK kvs)) :=
  ⟨fun a o e n => by
    by_cases z : a = p
    · rw [z, upd_same]; rw [z, hp] at e; exact e
    · rw [upd_ne z]; exact k2.at_ a o (by rw [upd_ne z]; exact e) n, fun a xs e => by
    by_cases z : a = p
    · rw [z, hp] at e; cases e
    · rw [upd_ne z]; exact k2.tp a xs (by rw [upd_ne z]; exact e)⟩
def spTurned : Sp := fun vs H Q _ => ∃ (R G W L : Addr) (ps : List (Str × List Key)) (g : List Key) (pw : List (Str × Int)) (us : List Str), vs = [.ref R, .ref G, .ref W, .ref L] ∧ RawAt [] H R G W ps g pw ∧ H L = some (.lst (us.map V.str)) ∧ Pool us ∧
  ∀ q R' G' W' H', Kp [] H H' → H' q = some (.tup [.ref R', .ref G', .ref W']) → RawAt [] H' R' G' W' (ps.map (tr (polF us) (namesP ps))) (g.map (tk (polF us) (namesP ps))) (pw.map (tp (polF us) (namesP ps))) → Q (.ref q) H'
section
variable {P : Program} {w : World} {K : PySem.W.Frag} {mg : Str → Option Value} {base : Heap}
theorem ok_turned (B : Bi mg) (D : Dfn K mg "_law_turned" s__law_turned ["_law_rows", "_law_group", "_law_powers", "_law_pool_here"]) : Has P w K mg base CX0 "_law_turned" ["_law_rows", "_law_group", "_law_powers", "_law_pool_here"] 2 spTurned := by
  refine D.has sc__law_turned (fun vs H Q E h => ?_) (fun f cdv A outer s H vs Q E hr h => ?_)
  · obtain ⟨R, G, W, L, ps, g, pw, us, rfl, _⟩ := h; rfl
  · obtain ⟨R, G, W, Lp, ps, g, pw, us, rfl, ⟨⟨xs, hR, RX⟩, _, hG, _, hW, _, okp, okg, okw⟩, hLp, hus, k⟩ := h
    have hu := hu_of hr
    refine ⟨_, (pss_cons (ps_set (i := 4) sc__law_turned.nd rfl (by first | exact Or.inl rfl | exact Or.inr rfl) pe_dnewK)
  (pss_cons (ps_for PassesOwn.never rfl (pi_list (pv 0)) (pg_tup rfl (pgs_cons (pg_name (i := 5) sc__law_turned.nd rfl (by first | exact Or.inl rfl | exact Or.inr rfl)) (pgs_cons (pg_name (i := 6) sc__law_turned.nd rfl (by first | exact Or.inl rfl | exact Or.inr rfl)) pgs_nil)))
  (pss_one (ps_for PassesOwn.never rfl (pi_list (pv 6)) (pg_name (i := 7) sc__law_turned.nd rfl (by first | exact Or.inl rfl | exact Or.inr rfl))
  (pss_one (ps_if (PW.pt (pw_and (pt_val (pe_callB call_isi (by rfl) B.isinstance (by decide +kernel) (pa_cons (pv 7) (pa_cons (pe_bltn (v := .ty "str") (by rfl) B.str (by decide +kernel) rfl) pa_nil)))) (pw_and1 (pt_cmp (pc_dnotin hu (pv 7) (pv 4)) rfl))))
  (pss_one (ps_dput hu (pv 4) (pv 7) (pe_ix ix_list (pv 3) (pe_callB call_lenD (by rfl) B.len PySem.boot_len (pa_cons (pv 4) pa_nil)) (fun _ _ => rfl)) rfl))
  pss_nil)))))
  (pss_cons (ps_set (i := 8) sc__law_turned.nd rfl (by first | exact Or.inl rfl | exact Or.inr rfl) (pe_lst pa_nil))
  (pss_cons (ps_for PassesOwn.never rfl (pi_list (pv 0)) (pg_tup rfl (pgs_cons (pg_name (i := 5) sc__law_turned.nd rfl (by first | exact Or.inl rfl | exact Or.inr rfl)) (pgs_cons (pg_name (i := 6) sc__law_turned.nd rfl (by first | exact Or.inl rfl | exact Or.inr rfl)) pgs_nil)))
  (pss_one (ps_expr (pe_bm PySem.F.plainAttrs_list PySem.F.slot_list_append PySem.F.type_list_append mt_append (pv 8) (pa_cons (pe_tup (pa_cons (pv 5) (pa_cons (pe_lc (own := [("_law_symbol", 7)]) (g := gName 7) (by rfl) sc__law_turned.nd (pi_list (pv 6)) (blkOk_by (own := [("_law_symbol", 7)]) (N := N__law_turned) (sc := defScope s__law_turned) (by decide +kernel)) (fun _ _ _ _ _ => (pg_name (i := 7) sc__law_turned.nd rfl (by first | exact Or.inl rfl | exact Or.inr rfl))) (fun _ _ _ _ _ => pts_nil) (fun _ _ _ _ _ => (pe_ifExp (pt_val (pe_callB (r := rIsi K) call_isi (by rfl) B.isinstance (by decide +kernel) (pa_cons (pv 7) (pa_cons (pe_bltn (v := .ty "str") (by rfl) B.str (by decide +kernel) rfl) pa_nil)))) (pe_dget hu (pv 4) (pv 7) (fun _ _ => rfl)) (pv 7)))) pa_nil))) pa_nil)))))
  (pss_cons (ps_set (i := 9) sc__law_turned.nd rfl (by first | exact Or.inl rfl | exact Or.inr rfl) pe_dnewK)
  (pss_cons (ps_lock (ps_for PassesOwn.never rfl (pi_keys (pv 2)) (pg_name (i := 10) sc__law_turned.nd rfl (by first | exact Or.inl rfl | exact Or.inr rfl))
  (pss_one (ps_dput hu (pv 9) (pe_dget hu (pv 4) (pv 10) (fun _ _ => rfl)) (pe_dget hu (pv 2) (pv 10) (fun _ _ => rfl)) rfl))))
  (pss_one (ps_ret (pe_tup (pa_cons (pv 8) (pa_cons (pe_lc (own := [("_law_symbol", 7)]) (g := gName 7) (by rfl) sc__law_turned.nd (pi_list (pv 1)) (blkOk_by (own := [("_law_symbol", 7)]) (N := N__law_turned) (sc := defScope s__law_turned) (by decide +kernel)) (fun _ _ _ _ _ => (pg_name (i := 7) sc__law_turned.nd rfl (by first | exact Or.inl rfl | exact Or.inr rfl))) (fun _ _ _ _ _ => pts_nil) (fun _ _ _ _ _ => (pe_ifExp (pt_val (pe_callB (r := rIsi K) call_isi (by rfl) B.isinstance (by decide +kernel) (pa_cons (pv 7) (pa_cons (pe_bltn (v := .ty "str") (by rfl) B.str (by decide +kernel) rfl) pa_nil)))) (pe_dget hu (pv 4) (pv 7) (fun _ _ => rfl)) (pv 7)))) (pa_cons (pv 9) pa_nil)))))))))))), ?_⟩
    have ok1 := okp.1
    have n24 := namesP_len okp
    have w24 := okw.len
    have el := RX.len
    have hsz : sizeLine = 16777216 := rfl
    have l29 := hus.1
    intro D hD
    have k0 : Kp [] H (upd H D (.dK [])) := Kp.new hD
    refine ⟨_, rfl, R, rfl, ⟨_, SqL.of (k0.at_ _ _ hR (fun z => nomatch z))⟩, ?_⟩
    refine for_it (walk_list (xs := xs)) (fun i σ H' => (∃ o5 o6 o7, σ = [some (.ref R), some (.ref G), some (.ref W), some (.ref Lp), some (.ref D), o5, o6, o7, none, none, none]) ∧ Kp [] H H' ∧ H' D = some (.dK (kvF (polF us) ((ps.take i).foldl addR [])))) ⟨⟨_, _, _, rfl⟩, k0, upd_same⟩ (fun i σ H' _ h => SqL.of (h.2.1.at_ _ _ hR (fun z => nomatch z))) ?_ ?_
    · rintro i u σ H2 H3 hi ⟨⟨o5, o6, o7, rfl⟩, k2, h2⟩ ⟨rfl, hu1⟩
      obtain ⟨a, b, r, rfl, er, ha, hb, _⟩ := (RX.kp k2).get hu1
      have okr := okp.2 r (List.mem_of_getElem? er)
      have i6 : i < 6 := by omega
      have ln : ((ps.take i).foldl addR []).length ≤ 4 * i := by
        have := foldR_len (ps.take i) [] fun x hx => (okp.2 x (List.mem_of_mem_take hx)).2.2.1
        rw [List.length_take] at this
        have := Nat.min_le_left i ps.length
        simp only [List.length_nil] at *
        omega
      rw [take_snoc er, List.foldl_append]
      generalize hns : (ps.take i).foldl addR [] = ns at h2 ln
      refine ⟨a, _, rfl, SqT.of ha, rfl, _, _, rfl, _, _, rfl, rfl, ?_⟩
      refine ⟨_, rfl, b, rfl, ⟨_, SqL.of hb⟩, ?_⟩
      refine for_it (walk_list (xs := r.2.map kV)) (fun j σ H' => (∃ o7, σ = [some (.ref R), some (.ref G), some (.ref W), some (.ref Lp), some (.ref D), some (.str r.1), some (.ref b), o7, none, none, none]) ∧ Kp [] H H' ∧ H' D = some (.dK (kvF (polF us) ((r.2.take j).foldl addN ns))) ∧ H' b = some (.lst (r.2.map kV))) ⟨⟨_, rfl⟩, k2, h2, hb⟩ (fun j σ H' _ h => SqL.of h.2.2.2) ?_ ?_
      · rintro j u σ H4 H5 hj ⟨⟨o7, rfl⟩, k4, h4, hb4⟩ ⟨rfl, hu2⟩
        rw [List.getElem?_map] at hu2
        cases ey : r.2[j]? with
        | none => rw [ey] at hu2; cases hu2
        | some y =>
          rw [ey] at hu2
          cases hu2
          rw [take_snoc ey, List.foldl_append]
          have l5 : ((r.2.take j).foldl addN ns).length ≤ 4 * i + j := by
            have := foldN_len (r.2.take j) ns
            rw [List.length_take] at this
            have := Nat.min_le_left j r.2.length
            omega
          have j4 : j < 4 := by
            have := (List.getElem?_eq_some_iff.mp ey).1
            omega
          generalize hms : (r.2.take j).foldl addN ns = ms at h4 l5
          refine ⟨_, rfl, _, _, _, _, _, rfl, .ty _, kV_ty, kit_ty (kb_key y), _, rfl, ?_⟩
          cases y with
          | inl iy => exact iteF (iteF ⟨⟨_, rfl⟩, k4, h4, hb4⟩)
          | inr sy =>
            refine iteT ⟨_, rfl, _, rfl, D, _, rfl, .inl ⟨_, .inr sy, .inl h4, rfl, rfl⟩, _, rfl, ?_⟩
            rw [valV_kvF]
            by_cases hm : sy ∈ ms
            · rw [if_pos hm]
              refine iteF ⟨⟨_, rfl⟩, k4, ?_, hb4⟩
              show H5 D = some (.dK (kvF (polF us) (addN ms (.inr sy))))
              rw [addN_inr, if_pos hm]; exact h4
            · rw [if_neg hm]
              refine iteT ?_
              refine ⟨_, rfl, _, rfl, D, _, rfl, h4, Lp, us.map V.str, _, .str (polF us ms.length), rfl, rfl, SqL.of (k4.at_ _ _ hLp (fun z => nomatch z)), atI_nat (by rw [kvF_len, List.getElem?_map, polF_at (by omega)]; rfl), _, rfl, _, rfl, D, _, rfl, .inl ⟨_, .inr sy, h4, rfl, by rw [kvF_len]; exact small1000 (by omega), rfl⟩, ?_⟩
              rw [putK_new _ (by rw [valV_kvF, if_neg hm])]
              refine ⟨⟨_, rfl⟩, k4.late hD, ?_, by rw [upd_ne (fun z => by rw [z, h4] at hb4; cases hb4)]; exact hb4⟩
              rw [upd_same]
              show some (HO.dK _) = some (.dK (kvF (polF us) (addN ms (.inr sy))))
              rw [addN_inr, if_neg hm, kvF_snoc]
      · rintro σ H4 ⟨⟨o7, rfl⟩, k4, h4, hb4⟩
        rw [List.length_map, List.take_length] at h4
        exact ⟨⟨_, _, _, rfl⟩, k4, h4⟩
    · rintro σ H2 ⟨⟨o5, o6, o7, rfl⟩, k2, h2⟩
      rw [el, List.take_length] at h2
      have h2 : H2 D = some (.dK (kvF (polF us) (namesP ps))) := h2
      have gv : ∀ {y : Key}, (∀ s, y = .inr s → s ∈ namesP ps) → ∀ sy, y = .inr sy → valV (kvF (polF us) (namesP ps)) (.inr sy) = some (kV (tk (polF us) (namesP ps) y)) := fun {y} h sy e => by
        subst e
        rw [valV_kvF, if_pos (h sy rfl)]; rfl
      refine ⟨by show 0 ≤ sizeLine; decide, fun M hM => ?_⟩
      have hMH : H M = none := k2.same.free hM
      have k3 := k2.snoc (o := .lst []) hM
      refine ⟨_, rfl, R, rfl, ⟨_, SqL.of (k3.at_ _ _ hR (fun z => nomatch z))⟩, ?_⟩
      refine for_it (walk_list (xs := xs)) (fun i σ H' => (∃ o5 o6 o7, σ = [some (.ref R), some (.ref G), some (.ref W), some (.ref Lp), some (.ref D), o5, o6, o7, some (.ref M), none, none]) ∧ Kp [] H H' ∧ H' D = some (.dK (kvF (polF us) (namesP ps))) ∧ ∃ zs, H' M = some (.lst zs) ∧ zs.length = i ∧ RawAll [M] H' zs ((ps.take i).map (tr (polF us) (namesP ps)))) ⟨⟨_, _, _, rfl⟩, k3, (Kp.new (ms := []) hM).at_ _ _ h2 (fun z => nomatch z), [], upd_same, rfl, .nil⟩ (fun i σ H' _ h => SqL.of (h.2.1.at_ _ _ hR (fun z => nomatch z))) ?_ ?_
      · rintro i u σ H3 H4 hi ⟨⟨o5, o6, o7, rfl⟩, k4, h4, zs, hz, lz, gz⟩ ⟨rfl, hu1⟩
        obtain ⟨a, b, r, rfl, er, ha, hb, _⟩ := (RX.kp k4).get hu1
        have okr := okp.2 r (List.mem_of_getElem? er)
        refine ⟨a, _, rfl, SqT.of ha, rfl, _, _, rfl, _, _, rfl, rfl, ?_⟩
        refine ⟨_, rfl, .inl ⟨rfl, _, SqL.of hz⟩, _, rfl, _, rfl, b, rfl, ⟨_, SqL.of hb⟩, fun S hS => ?_⟩
        have SM : S ≠ M := fun z => by rw [z, hz] at hS; cases hS
        refine lc_it (walk_list (xs := r.2.map kV)) (fun j H' => H' S = some (.lst (((r.2.take j).map (tk (polF us) (namesP ps))).map kV)) ∧ Kp [] H4 H') ⟨upd_same, Kp.new hS⟩ (fun j H' _ h => SqL.of (h.2.at_ _ _ hb (fun z => nomatch z))) (fun j u H5 H6 hj h5 hy => ?_) (fun H5 h5 => ?_)
        · obtain ⟨h5, k5⟩ := h5
          obtain ⟨rfl, hu2⟩ := hy
          rw [List.getElem?_map] at hu2
          cases ey : r.2[j]? with
          | none => rw [ey] at hu2; cases hu2
          | some y =>
            rw [ey] at hu2
            cases hu2
            have lg : (((r.2.take j).map (tk (polF us) (namesP ps))).map kV).length < sizeLine := by
              rw [List.length_map, List.length_map]
              have : (List.take j r.2).length = min j r.2.length := List.length_take
              have := okr.2.2.1
              exact small1000 (by omega)
            refine ⟨rfl, _, rfl, _, _, _, _, _, rfl, .ty _, kV_ty, kit_ty (kb_key y), _, rfl, ?_⟩
            have hg := gv (y := y) (fun s e => foldR_in ps [] s r (List.mem_of_getElem? er) (e ▸ List.mem_of_getElem? ey))
            cases y with
            | inl iy =>
              refine iteF ⟨_, rfl, _, h5, lg, ?_, k5.late hS⟩
              rw [upd_same, take_snoc ey, List.map_append, List.map_append]; rfl
            | inr sy =>
              refine iteT ⟨_, rfl, _, rfl, D, _, rfl, .inl ⟨_, .inr sy, .inl (k5.at_ _ _ h4 (fun z => nomatch z)), rfl, (hg sy rfl).symm⟩, _, h5, lg, ?_, k5.late hS⟩
              rw [upd_same, take_snoc ey, List.map_append, List.map_append]; rfl
        · obtain ⟨h5, k5⟩ := h5
          rw [List.length_map, List.take_length] at h5
          refine ⟨by show 2 ≤ sizeLine; decide, fun t ht => ?_⟩
          have k6 := k5.snoc (o := .tup [.str r.1, .ref S]) ht
          have hz6 := k6.at_ _ _ hz (fun z => nomatch z)
          have h56 := (Kp.new (ms := []) (o := .tup [.str r.1, .ref S]) ht).at_ _ _ h5 (fun z => nomatch z)
          refine ⟨M, _, _, rfl, rfl, hz6, by rw [lz]; exact small1000 (by omega), ?_⟩
          have kM : Kp [M] (upd H5 t (.tup [.str r.1, .ref S])) (upd (upd H5 t (.tup [.str r.1, .ref S])) M (.lst (zs ++ [.ref t]))) := Kp.updL hz6 (by simp)
          have DM : D ∉ [M] := fun z => by
            have z : D = M := by simpa using z
            rw [z, hz] at h4; cases h4
          refine ⟨⟨_, _, _, rfl⟩, (k4.trans k6).late hMH, kM.at_ _ _ (k6.at_ _ _ h4 (fun z => nomatch z)) DM, zs ++ [.ref t], upd_same, by simp [lz], ?_⟩
          rw [take_snoc er, List.map_append]
          exact ((gz.kp k6.zero).kp kM).snoc (r := tr (polF us) (namesP ps) r) (kM.tp _ _ (upd_same (H := H5) (a := t))) (kM.at_ _ _ h56 (by simpa using SM)) (by simpa using SM)
      · rintro σ H3 ⟨⟨o5, o6, o7, rfl⟩, k4, h4, zs, hz, lz, gz⟩
        rw [el, List.take_length] at gz
        intro T hT
        have hTH : H T = none := k4.same.free hT
        have k5 := k4.snoc (o := .dK []) hT
        have TD : T ≠ D := fun z => by rw [z, h4] at hT; cases hT
        have TM : T ≠ M := fun z => by rw [z, hz] at hT; cases hT
        have hW3 := k4.at_ _ _ hW (fun z => nomatch z)
        have WT : W ≠ T := fun z => by rw [z, hT] at hW3; cases hW3
        generalize h5 : upd H3 T (.dK []) = H5 at k5
        have k35 : Kp [] H3 H5 := h5 ▸ Kp.new hT
        have hT5 : H5 T = some (.dK (pwKv [])) := by rw [← h5]; exact upd_same
        have hW5 := k5.at_ _ _ hW (fun z => nomatch z)
        have hD5 := k35.at_ _ _ h4 (fun z => nomatch z)
        refine ⟨W, _, hW5, trivial, fun od => ?_⟩
        have sl : Sm H5 (upd H5 W (.frz od (.dK (pwKv pw)))) := Sm.lock hW5 (fun _ _ z => by cases z) (fun _ z => by cases z)
        have rD := sl.rd (.inl hD5)
        have hTl : upd H5 W (.frz od (.dK (pwKv pw))) T = some (.dK (pwKv [])) := by rw [upd_ne (Ne.symm WT)]; exact hT5
        refine ⟨_, rfl, W, od, rfl, .inl ⟨pwKv pw, upd_same, ?_⟩⟩
        refine for_it (walk_keys (kvs := pwKv pw)) (fun j σ H' => (∃ o10, σ = [some (.ref R), some (.ref G), some (.ref W), some (.ref Lp), some (.ref D), o5, o6, o7, some (.ref M), some (.ref T), o10]) ∧ H' T = some (.dK (pwKv ((pw.take j).map (tp (polF us) (namesP ps))))) ∧ Kp [T] (upd H5 W (.frz od (.dK (pwKv pw)))) H') ⟨⟨_, rfl⟩, hTl, Kp.refl _⟩ (fun j σ H' _ h => h.2.2.at_ _ _ upd_same (by simpa using WT)) ?_ ?_
        · rintro j xk σ H6 H7 hj ⟨⟨o10, rfl⟩, h6, k6⟩ ⟨rfl, kk, vv, hk, rfl⟩
          obtain ⟨e, he, rfl, rfl, hv⟩ := pwKv_at okw.1 hk
          have pin := (okw.2 e (List.mem_of_getElem? he)).1
          have rD7 := k6.rd (by simpa using Ne.symm TD) rD
          have rW7 : Rd H7 W (.dK (pwKv pw)) := k6.rd (by simpa using WT) (.inr ⟨od, upd_same⟩)
          have hj24 : j < 24 := by
            rw [show (pwKv pw).length = pw.length from List.length_map ..] at hj
            omega
          refine ⟨_, rfl, _, rfl, W, _, rfl, .inl ⟨_, .inr e.1, rW7, rfl, hv.symm⟩, _, rfl, _, rfl, _, rfl, D, _, rfl, .inl ⟨_, .inr e.1, rD7, rfl, by rw [valV_kvF, if_pos pin]; rfl⟩, T, _, rfl, .inl ⟨_, .inr (tn (polF us) (namesP ps) e.1), h6, rfl, ?_, rfl⟩, ?_⟩
          · rw [show ∀ l, (pwKv l).length = l.length from fun l => List.length_map .., List.length_map, List.length_take]
            have := Nat.min_le_left j pw.length
            exact small1000 (by omega)
          · have hnew : tn (polF us) (namesP ps) e.1 ∉ ((pw.take j).map (tp (polF us) (namesP ps))).map (·.1) := by
              have nd := (w_tr_ok (polF_inj hus) okp okw).1
              have := notin_take nd (i := j) (x := tn (polF us) (namesP ps) e.1) (by rw [List.getElem?_map, List.getElem?_map, he]; rfl)
              rwa [← List.map_take, ← List.map_take] at this
            rw [putP_kv]
            rw [show putP ((pw.take j).map (tp (polF us) (namesP ps))) (tn (polF us) (namesP ps) e.1) e.2 = (pw.take (j + 1)).map (tp (polF us) (namesP ps)) by
              unfold putP
              rw [if_neg hnew, take_snoc he, List.map_append]; rfl]
            exact ⟨⟨_, rfl⟩, upd_same, k6.trans (Kp.set h6 (fun _ z => by cases z) (by simp))⟩
        · rintro σ H6 ⟨⟨o10, rfl⟩, h6, k6⟩
          rw [show (pwKv pw).length = pw.length from List.length_map .., List.take_length] at h6
          refine ⟨k6.at_ _ _ upd_same (by simpa using WT), ?_⟩
          have k58 : Kp [T] H5 (upd H6 W (.dK (pwKv pw))) := Kp.unlockM hW5 k6
          have hT8 : upd H6 W (.dK (pwKv pw)) T = some (.dK (pwKv (pw.map (tp (polF us) (namesP ps))))) := by rw [upd_ne (Ne.symm WT)]; exact h6
          generalize upd H6 W (.dK (pwKv pw)) = H8 at k58 hT8
          have k08 : Kp [] H H8 := k5.via k58 (by simp [hTH])
          have hD8 := k58.at_ _ _ hD5 (by simpa using Ne.symm TD)
          have hM8 := k58.at_ _ _ (k35.at_ _ _ hz (fun z => nomatch z)) (by simpa using Ne.symm TM)
          have gz8 := ((gz.new hT).kp k35.zero).kp (k58.mono (ms' := [T, M]) (by simp))
          have hG8 := k08.at_ _ _ hG (fun z => nomatch z)
          refine ⟨_, rfl, _, rfl, G, rfl, ⟨_, SqL.of hG8⟩, fun S hS => ?_⟩
          refine lc_it (walk_list (xs := g.map kV)) (fun j H' => H' S = some (.lst (((g.take j).map (tk (polF us) (namesP ps))).map kV)) ∧ Kp [] H8 H') ⟨upd_same, Kp.new hS⟩ (fun j H' _ h => SqL.of (h.2.at_ _ _ hG8 (fun z => nomatch z))) (fun j u H9 H10 hj h9 hy => ?_) (fun H9 h9 => ?_)
          · obtain ⟨h9, k9⟩ := h9
            obtain ⟨rfl, hu2⟩ := hy
            rw [List.getElem?_map] at hu2
            cases ey : g[j]? with
            | none => rw [ey] at hu2; cases hu2
            | some y =>
              rw [ey] at hu2
              cases hu2
              have lg : (((g.take j).map (tk (polF us) (namesP ps))).map kV).length < sizeLine := by
                rw [List.length_map, List.length_map]
                have : (List.take j g).length = min j g.length := List.length_take
                have := okg.1
                exact small1000 (by omega)
              refine ⟨rfl, _, rfl, _, _, _, _, _, rfl, .ty _, kV_ty, kit_ty (kb_key y), _, rfl, ?_⟩
              have hg := gv (y := y) (fun s e => okg.2.2 s (e ▸ List.mem_of_getElem? ey))
              cases y with
              | inl iy =>
                refine iteF ⟨_, rfl, _, h9, lg, ?_, k9.late hS⟩
                rw [upd_same, take_snoc ey, List.map_append, List.map_append]; rfl
              | inr sy =>
                refine iteT ⟨_, rfl, _, rfl, D, _, rfl, .inl ⟨_, .inr sy, .inl (k9.at_ _ _ hD8 (fun z => nomatch z)), rfl, (hg sy rfl).symm⟩, _, h9, lg, ?_, k9.late hS⟩
                rw [upd_same, take_snoc ey, List.map_append, List.map_append]; rfl
          · obtain ⟨h9, k9⟩ := h9
            rw [List.length_map, List.take_length] at h9
            refine ⟨_, rfl, by show 3 ≤ sizeLine; decide, fun q hq => ?_⟩
            have kq : Kp [] H9 (upd H9 q (.tup [.ref M, .ref S, .ref T])) := Kp.new hq
            have k8q := k9.trans kq
            have fi := polF_inj hus
            have fl := polF_len hus
            exact k q M S T _ (k08.trans k8q) upd_same ⟨⟨zs, k8q.at_ _ _ hM8 (fun z => nomatch z), (gz8.kp k8q.zero).mono (ms' := []) (fun x h => nomatch h)⟩, (fun z => nomatch z), kq.at_ _ _ h9 (fun z => nomatch z), (fun z => nomatch z), k8q.at_ _ _ hT8 (fun z => nomatch z), (fun z => nomatch z), ps_tr_ok okp fl, g_tr_ok fi okp fl okg, w_tr_ok fi okp okw⟩
end
end Fm

namespace Fm
open PySem PySem.Spec PyProof.Rows L2
/-! ### a pattern spoilt -/
def strK : Key → List Str
  | .inl _ => []
  | .inr s => [s]
def strsK (ks : List Key) : List Str := ks.flatMap strK
def usL (ps : List (Str × List Key)) : List Str := ps.flatMap fun r => strsK r.2
theorem strsK_snoc {ks : List Key} {q : Nat} {k : Key} (h : ks[q]? = some k) : strsK (ks.take (q + 1)) = strsK (ks.take q) ++ strK k := by
  unfold strsK
  rw [take_snoc h, List.flatMap_append, List.flatMap_singleton]
theorem usL_snoc {ps : List (Str × List Key)} {q : Nat} {r : Str × List Key} (h : ps[q]? = some r) : usL (ps.take (q + 1)) = usL (ps.take q) ++ strsK r.2 := by
  unfold usL
  rw [take_snoc h, List.flatMap_append, List.flatMap_singleton]
theorem strsK_mem {ks : List Key} {s : Str} : s ∈ strsK ks ↔ Sum.inr s ∈ ks := by
  unfold strsK
  rw [List.mem_flatMap]
  constructor
  · rintro ⟨k, hk, hs⟩
    cases k with
    | inl _ => cases hs
    | inr t => rw [List.mem_singleton.mp hs]; exact hk
  · exact fun h => ⟨_, h, List.mem_singleton.mpr rfl⟩
theorem usL_mem {ps : List (Str × List Key)} {s : Str} : s ∈ usL ps ↔ ∃ r ∈ ps, Sum.inr s ∈ r.2 := by
  unfold usL
  rw [List.mem_flatMap]
  exact ⟨fun ⟨r, h, hs⟩ => ⟨r, h, strsK_mem.mp hs⟩, fun ⟨r, h, hs⟩ => ⟨r, h, strsK_mem.mpr hs⟩⟩
theorem strsK_len : ∀ ks : List Key, (strsK ks).length ≤ ks.length
  | [] => Nat.le_refl _
  | k :: ks => by
    have ih := strsK_len ks
    show (strK k ++ strsK ks).length ≤ _
    rw [List.length_append, List.length_cons]
    cases k <;> simp [strK] <;> omega
theorem usL_len : ∀ {ps : List (Str × List Key)}, (∀ r ∈ ps, r.2.length ≤ 4) → (usL ps).length ≤ 4 * ps.length
  | [], _ => Nat.le_refl _
  | r :: ps, h => by
    have ih := usL_len (ps := ps) fun x hx => h x (List.mem_cons_of_mem _ hx)
    have := strsK_len r.2
    have := h r List.mem_cons_self
    show (strsK r.2 ++ usL ps).length ≤ _
    rw [List.length_append, List.length_cons]
    omega
inductive RawB (H : Hp) : List V → List (Str × List Key) → List Addr → Prop
  | nil : RawB H [] [] []
  | cons {a b : Addr} {r : Str × List Key} {xs : List V} {ps : List (Str × List Key)} {bs : List Addr} : H a = some (.tup [.str r.1, .ref b]) → H b = some (.lst (r.2.map kV)) → RawB H xs ps bs → RawB H (.ref a :: xs) (r :: ps) (b :: bs)
theorem RawB.kp {ms : List Addr} {H H' : Hp} (k : Kp ms H H') : ∀ {xs : List V} {ps : List (Str × List Key)} {bs : List Addr}, RawB H xs ps bs → (∀ x ∈ bs, x ∉ ms) → RawB H' xs ps bs
  | _, _, _, .nil, _ => .nil
  | _, _, _, .cons a b d, h => .cons (k.tp _ _ a) (k.at_ _ _ b (h _ List.mem_cons_self)) (d.kp k fun x hx => h x (List.mem_cons_of_mem _ hx))
theorem RawB.snoc {H : Hp} {a b : Addr} {r : Str × List Key} (h1 : H a = some (.tup [.str r.1, .ref b])) (h2 : H b = some (.lst (r.2.map kV))) : ∀ {xs : List V} {ps : List (Str × List Key)} {bs : List Addr}, RawB H xs ps bs → RawB H (xs ++ [.ref a]) (ps ++ [r]) (bs ++ [b])
  | _, _, _, .nil => .cons h1 h2 .nil
  | _, _, _, .cons a b d => .cons a b (d.snoc h1 h2)
theorem RawB.len {H : Hp} : ∀ {xs : List V} {ps : List (Str × List Key)} {bs : List Addr}, RawB H xs ps bs → xs.length = ps.length
  | _, _, _, .nil => rfl
  | _, _, _, .cons _ _ d => congrArg (· + 1) d.len
theorem RawB.at_ {H : Hp} : ∀ {xs : List V} {ps : List (Str × List Key)} {bs : List Addr}, RawB H xs ps bs → ∀ {i : Nat} {r : Str × List Key}, ps[i]? = some r → ∃ a b, xs[i]? = some (.ref a) ∧ bs[i]? = some b ∧ H a = some (.tup [.str r.1, .ref b]) ∧ H b = some (.lst (r.2.map kV))
  | _, _, _, .cons a b d, 0, r, h => by cases h; exact ⟨_, _, rfl, rfl, a, b⟩
  | _, _, _, .cons a b d, i + 1, r, h => d.at_ (i := i) h
theorem RawB.blen {H : Hp} : ∀ {xs : List V} {ps : List (Str × List Key)} {bs : List Addr}, RawB H xs ps bs → bs.length = ps.length
  | _, _, _, .nil => rfl
  | _, _, _, .cons _ _ d => congrArg (· + 1) d.blen
theorem RawB.raw {H : Hp} {ms : List Addr} : ∀ {xs : List V} {ps : List (Str × List Key)} {bs : List Addr}, RawB H xs ps bs → (∀ x ∈ bs, x ∉ ms) → RawAll ms H xs ps
  | _, _, _, .nil, _ => .nil
  | _, _, _, .cons a b d, h => .cons a b (h _ List.mem_cons_self) (d.raw fun x hx => h x (List.mem_cons_of_mem _ hx))
/-- one row's symbols changed -/
theorem RawB.put {H : Hp} {ks : List Key} : ∀ {xs : List V} {ps : List (Str × List Key)} {bs : List Addr}, RawB H xs ps bs → bs.Nodup → ∀ {i : Nat} {r : Str × List Key} {s : Addr}, ps[i]? = some r → bs[i]? = some s → RawB (upd H s (.lst (ks.map kV))) xs (ps.set i (r.1, ks)) bs
  | _, _, _, @RawB.cons _ a b r xs ps bs h1 h2 d, nd, 0, _, _, e1, e2 => by
    cases e1
    cases e2
    obtain ⟨n1, n2⟩ := List.nodup_cons.mp nd
    have kL : Kp [b] H (upd H b (.lst (ks.map kV))) := Kp.updL h2 (by simp)
    exact .cons (kL.tp _ _ h1) upd_same (d.kp kL fun x hx z => n1 (by rw [List.mem_singleton.mp z] at hx; exact hx))
  | _, _, _, @RawB.cons _ a b r xs ps bs h1 h2 d, nd, i + 1, r', s, e1, e2 => by
    obtain ⟨n1, n2⟩ := List.nodup_cons.mp nd
    have e2 : bs[i]? = some s := e2
    have e1 : ps[i]? = some r' := e1
    have hs : s ∈ bs := List.mem_of_getElem? e2
    obtain ⟨a', b', _, hb', _, h3⟩ := d.at_ e1
    rw [e2] at hb'
    cases hb'
    have kL : Kp [s] H (upd H s (.lst (ks.map kV))) := Kp.updL h3 (by simp)
    exact .cons (kL.tp _ _ h1) (kL.at_ _ _ h2 (fun z => n1 (by rw [List.mem_singleton.mp z]; exact hs))) (d.put n2 e1 e2)
theorem RawAll.set {ms : List Addr} {H : Hp} : ∀ {xs : List V} {ps : List (Str × List Key)}, RawAll ms H xs ps → ∀ {i j : Nat} {u : V} {r : Str × List Key}, xs[j]? = some u → ps[j]? = some r → RawAll ms H (xs.set i u) (ps.set i r) := by
  intro xs ps h i j u r hu hr
  obtain ⟨a, b, r', rfl, e, h1, h2, h3⟩ := h.get hu
  rw [hr] at e
  cases e
  clear hu hr
  induction h generalizing i with
  | nil => exact .nil
  | cons a1 b1 c1 d1 ih =>
    cases i with
    | zero => exact .cons h1 h2 h3 d1
    | succ i => exact .cons a1 b1 c1 (ih (i := i))
/-- powers with any names -/
def PwQ (pw : List (Str × Int)) : Prop := (pw.map (·.1)).Nodup ∧ ∀ p ∈ pw, 1 ≤ p.2 ∧ p.2 ≤ 100
def putW (pw : List (Str × Int)) (s : Str) (n : Int) : List (Str × Int) := if (pw.any fun p => decide (p.1 = s)) = true then pw.map (fun p => if p.1 = s then (p.1, n) else p) else pw ++ [(s, n)]
theorem pwKv_put (pw : List (Str × Int)) (s : Str) (n : Int) : putK (pwKv pw) (.inr s) (.int n) = pwKv (putW pw s n) := by
  have e : ((pwKv pw).any fun kv => decide (kv.1 = (Sum.inr s : Key))) = pw.any fun p => decide (p.1 = s) := by
    unfold pwKv
    rw [List.any_map]
    congr 1
    funext p
    show decide ((Sum.inr p.1 : Key) = .inr s) = decide (p.1 = s)
    exact decide_eq_decide.mpr ⟨fun h => Sum.inr.inj h, fun h => by rw [h]⟩
  unfold putK putW
  rw [e]
  split
  · unfold pwKv
    rw [List.map_map, List.map_map]
    refine List.map_congr_left fun p _ => ?_
    by_cases h : p.1 = s
    · subst h
      show (if (Sum.inr p.1 : Key) = .inr p.1 then _ else _) = _
      rw [if_pos rfl]
      show _ = (fun p : Str × Int => ((Sum.inr p.1 : Key), V.int p.2)) (if p.1 = p.1 then (p.1, n) else p)
      rw [if_pos rfl]
    · show (if (Sum.inr p.1 : Key) = .inr s then _ else _) = (fun p : Str × Int => ((Sum.inr p.1 : Key), V.int p.2)) (if p.1 = s then (p.1, n) else p)
      rw [if_neg h, if_neg fun z => h (Sum.inr.inj z)]
  · unfold pwKv
    rw [List.map_append]; rfl
theorem putW_q {pw : List (Str × Int)} {s : Str} {n : Int} (h : PwQ pw) (h1 : 1 ≤ n) (h2 : n ≤ 100) : PwQ (putW pw s n) := by
  unfold putW
  split
  · have e : (pw.map fun p => if p.1 = s then (p.1, n) else p).map (·.1) = pw.map (·.1) := by
      rw [List.map_map]
      refine List.map_congr_left fun p _ => ?_
      show (if p.1 = s then (p.1, n) else p).1 = p.1
      split <;> rfl
    refine ⟨by rw [e]; exact h.1, fun p hp => ?_⟩
    obtain ⟨p0, h0, rfl⟩ := List.mem_map.mp hp
    show 1 ≤ (if p0.1 = s then (p0.1, n) else p0).2 ∧ (if p0.1 = s then (p0.1, n) else p0).2 ≤ 100
    by_cases e : p0.1 = s
    · rw [if_pos e]; exact ⟨h1, h2⟩
    · rw [if_neg e]; exact h.2 p0 h0
  · rename_i hn
    refine ⟨?_, fun p hp => ?_⟩
    · rw [List.map_append, List.nodup_append]
      refine ⟨h.1, by simp, fun x hx y hy => ?_⟩
      rw [List.map_cons, List.map_nil, List.mem_singleton] at hy
      subst hy
      rintro rfl
      obtain ⟨p, hp, e⟩ := List.mem_map.mp hx
      exact hn (List.any_eq_true.mpr ⟨p, hp, decide_eq_true e⟩)
    · rcases List.mem_append.mp hp with hp | hp
      · exact h.2 p hp
      · rw [List.mem_singleton.mp hp]; exact ⟨h1, h2⟩
theorem putW_len (pw : List (Str × Int)) (s : Str) (n : Int) : (putW pw s n).length ≤ pw.length + 1 := by
  unfold putW
  split
  · rw [List.length_map]; omega
  · rw [List.length_append, List.length_singleton]; omega
theorem psOk_set {ps : List (Str × List Key)} {i : Nat} {r : Str × List Key} {ks : List Key} (ok : PsOk ps) (hr : ps[i]? = some r) (hl : ks.length = r.2.length) (hk : ∀ k ∈ ks, SymOk k) : PsOk (ps.set i (r.1, ks)) := by
  refine ⟨by rw [List.length_set]; exact ok.1, fun q hq => ?_⟩
  obtain ⟨a, b, c, d⟩ := ok.2 r (List.mem_of_getElem? hr)
  rcases List.mem_or_eq_of_mem_set hq with h | rfl
  · exact ok.2 q h
  · exact ⟨a, by show 1 ≤ ks.length; omega, by show ks.length ≤ 4; omega, hk⟩
theorem psOk_setR {ps : List (Str × List Key)} {i : Nat} {r : Str × List Key} (ok : PsOk ps) (hr : r ∈ ps) : PsOk (ps.set i r) := by
  refine ⟨by rw [List.length_set]; exact ok.1, fun q hq => ?_⟩
  rcases List.mem_or_eq_of_mem_set hq with h | rfl
  · exact ok.2 q h
  · exact ok.2 q hr
theorem pwKv_int (pw : List (Str × Int)) (k : Key) : ∃ x : Int, (valV (pwKv pw) k).getD (.int 0) = .int x := by
  unfold valV
  cases e : (pwKv pw).find? fun kv => decide (kv.1 = k) with
  | none => exact ⟨0, rfl⟩
  | some kv =>
    have := List.mem_of_find?_eq_some e
    obtain ⟨p, _, rfl⟩ := List.mem_map.mp this
    exact ⟨p.2, rfl⟩
theorem pick3 {u : Str} {n : Int} (hu : u.length ≤ 1000000) (hn : InV n) {kd : Int} (h0 : 0 ≤ kd) (h3 : kd < 3) : ∃ kk : Key, SymOk kk ∧ ([V.str u, V.str "fresh", V.int n] : List V)[kd.toNat]? = some (kV kk) := by
  have : kd.toNat < 3 := by omega
  generalize kd.toNat = m at *
  match m, this with
  | 0, _ => exact ⟨.inr u, hu, rfl⟩
  | 1, _ => exact ⟨.inr "fresh", by show (Str.ofString "fresh").length ≤ 1000000; decide +kernel, rfl⟩
  | 2, _ => exact ⟨.inl n, hn, rfl⟩
def SpInv (b c R G W M T Vd Ua : Addr) (kd : Int) (H : Hp) (σ : List (Option V)) (H' : Hp) : Prop := ∃ (o8 o9 o11 : Option V) (ps1 : List (Str × List Key)) (g1 : List Key) (pw1 : List (Str × Int)) (zs1 : List V),
  σ = [some (.ref b), some (.ref R), some (.ref G), some (.ref W), some (.ref M), some (.ref T), some (.ref Vd), some (.ref Ua), o8, o9, some (.int kd), o11, none, none, none] ∧ Bag H' b c ∧ Kp [b] H H' ∧ H' M = some (.lst zs1) ∧ RawAll [b] H' zs1 ps1 ∧ PsOk ps1 ∧
  H' T = some (.lst (g1.map kV)) ∧ g1.length ≤ 3 ∧ (∀ k ∈ g1, SymOk k) ∧ H' Vd = some (.dK (pwKv pw1)) ∧ PwQ pw1 ∧ pw1.length ≤ 25
def keepK (us : List Str) : Key → Key
  | .inl i => .inl i
  | .inr s => if s ∈ us then .inr s else .inl 0
def spSpoilt : Sp := fun vs H Q _ => ∃ (b c R G W : Addr) (ps : List (Str × List Key)) (g : List Key) (pw : List (Str × Int)), vs = [.ref b, .ref R, .ref G, .ref W] ∧ Bag H b c ∧ RawAt [b] H R G W ps g pw ∧
  ∀ q R' G' W' ps' g' pw' H', Bag H' b c → Kp [b] H H' → H' q = some (.tup [.ref R', .ref G', .ref W']) → RawAt [b] H' R' G' W' ps' g' pw' → Q (.ref q) H'
def rListO (K : PySem.W.Frag) : List V → Hp → VK → Prop := fun xs H Q => ∃ p ys, xs = [.ref p] ∧ (SqL K H p ys ∨ SqT K H p ys) ∧ ∀ l, H l = none → Q (.ref l) (upd H l (.lst ys))
theorem call_listO {X : Cx} : CallR X (.type "list") (rListO X.K) := call_list_of
section
variable {P : Program} {w : World} {K : PySem.W.Frag} {mg : Str → Option Value} {base : Heap}
theorem ok_spoilt (B : Bi mg) (D : Dfn K mg "_law_spoilt" s__law_spoilt ["_law_bag_here", "_law_rows", "_law_group", "_law_powers"]) (G_pick : Has P w K mg base CX0 "_law_pick" ["_law_bag_here", "_law_many"] 1 spPick) (G_value : Has P w K mg base CX0 "_law_value" ["_law_bag_here"] 2 spValue) :
    Has P w K mg base CX0 "_law_spoilt" ["_law_bag_here", "_law_rows", "_law_group", "_law_powers"] 3 spSpoilt := by
  refine D.has sc__law_spoilt (fun vs H Q E h => ?_) (fun f cdv A outer s H vs Q E hr h => ?_)
  · obtain ⟨b, c, R, G, W, ps, g, pw, rfl, _⟩ := h; rfl
  · obtain ⟨b, c, R, G, W, ps, g, pw, rfl, BG, RA, k⟩ := h
    have hu := hu_of hr
    have hsz : sizeLine = 16777216 := rfl
    refine ⟨_, (pss_cons (ps_setLc (i := 4) (own := [("_law_table", 8), ("_law_symbols", 9)]) (g := gTup K 2 (gCons (gName 8) (gCons (gName 9) gNil))) (by rfl) sc__law_spoilt.nd rfl rfl (sw_true rfl rfl rfl (by decide +kernel)) (pi_list (pv 1)) (blkOk_by (own := [("_law_table", 8), ("_law_symbols", 9)]) (N := N__law_spoilt) (sc := defScope s__law_spoilt) (by decide +kernel)) (fun _ _ _ _ _ => (pg_tup rfl (pgs_cons (pg_name (i := 8) sc__law_spoilt.nd rfl (by first | exact Or.inl rfl | exact Or.inr rfl)) (pgs_cons (pg_name (i := 9) sc__law_spoilt.nd rfl (by first | exact Or.inl rfl | exact Or.inr rfl)) pgs_nil)))) (fun _ _ _ _ _ => pts_nil) (fun _ _ _ _ _ => (pe_tup (pa_cons (pv 8) (pa_cons (pe_callTy (r := rListO K) call_listO (by rfl) B.list (by decide +kernel) (pa_cons (pv 9) pa_nil)) pa_nil)))))
  (pss_cons (ps_set (i := 5) sc__law_spoilt.nd rfl (by first | exact Or.inl rfl | exact Or.inr rfl) (pe_callTy call_list_of (by rfl) B.list (by decide +kernel) (pa_cons (pv 2) pa_nil)))
  (pss_cons (ps_set (i := 6) sc__law_spoilt.nd rfl (by first | exact Or.inl rfl | exact Or.inr rfl) (pe_callTy call_dictD (by rfl) B.dict (by decide +kernel) (pa_cons (pv 3) pa_nil)))
  (pss_cons (ps_set (i := 7) sc__law_spoilt.nd rfl (by first | exact Or.inl rfl | exact Or.inr rfl) (pe_lst pa_nil))
  (pss_cons (ps_for PassesOwn.never rfl (pi_list (pv 1)) (pg_tup rfl (pgs_cons (pg_name (i := 8) sc__law_spoilt.nd rfl (by first | exact Or.inl rfl | exact Or.inr rfl)) (pgs_cons (pg_name (i := 9) sc__law_spoilt.nd rfl (by first | exact Or.inl rfl | exact Or.inr rfl)) pgs_nil)))
  (pss_one (ps_set (i := 7) sc__law_spoilt.nd rfl (by first | exact Or.inl rfl | exact Or.inr rfl) (pe_op op_cat (pv 7) (pe_lc (own := [("_law_symbol", 14)]) (g := gName 14) (by rfl) sc__law_spoilt.nd (pi_list (pv 9)) (blkOk_by (own := [("_law_symbol", 14)]) (N := N__law_spoilt) (sc := defScope s__law_spoilt) (by decide +kernel)) (fun _ _ _ _ _ => (pg_name (i := 14) sc__law_spoilt.nd rfl (by first | exact Or.inl rfl | exact Or.inr rfl))) (fun _ _ _ _ _ => pts_one (pt_val (pe_callB (r := rIsi K) call_isi (by rfl) B.isinstance (by decide +kernel) (pa_cons (pv 14) (pa_cons (pe_bltn (v := .ty "str") (by rfl) B.str (by decide +kernel) rfl) pa_nil))))) (fun _ _ _ _ _ => (pv 14)))))))
  (pss_cons (ps_set (i := 10) sc__law_spoilt.nd rfl (by first | exact Or.inl rfl | exact Or.inr rfl) (pe_has G_pick (hr.mono (by omega)) (pa_cons (pv 0) (pa_cons pe_int pa_nil))))
  (C8.pss_cut (ps_if (PW.pt (pw_and (pt_cmpR op_lt (pv 10) pe_int (nomark _)) (pw_and1 (pt_cmpR op_gt (pe_callB call_len (by rfl) B.len PySem.boot_len (pa_cons (pv 7) pa_nil)) pe_int (nomark _)))))
  (pss_cons (ps_set (i := 9) sc__law_spoilt.nd rfl (by first | exact Or.inl rfl | exact Or.inr rfl) (pe_ix (r := rIxT K) ix_tup (pe_ix ix_list (pv 4) (pe_has G_pick (hr.mono (by omega)) (pa_cons (pv 0) (pa_cons (pe_callB call_len (by rfl) B.len PySem.boot_len (pa_cons (pv 4) pa_nil)) pa_nil))) (fun _ _ => rfl)) pe_int (fun _ _ => rfl)))
  (pss_one (ps_asg (pe_ix ix_list (pe_lst (pa_cons (pe_ix ix_list (pv 7) (pe_has G_pick (hr.mono (by omega)) (pa_cons (pv 0) (pa_cons (pe_callB call_len (by rfl) B.len PySem.boot_len (pa_cons (pv 7) pa_nil)) pa_nil))) (fun _ _ => rfl)) (pa_cons pe_str (pa_cons (pe_has G_value (hr.mono (by omega)) (pa_cons (pv 0) pa_nil)) pa_nil)))) (pv 10) (fun _ _ => rfl)) (pg_sub (pv 9) (pe_has G_pick (hr.mono (by omega)) (pa_cons (pv 0) (pa_cons (pe_callB call_len (by rfl) B.len PySem.boot_len (pa_cons (pv 9) pa_nil)) pa_nil))) set_list))))
  (pss_one (ps_if (PW.pt (pw_and (pt_cmpR op_eq (pv 10) pe_int (nomark _)) (pw_and1 (pt_cmpR op_gt (pe_callB call_len (by rfl) B.len PySem.boot_len (pa_cons (pv 5) pa_nil)) pe_int (nomark _)))))
  (pss_one (ps_expr (pe_bm PySem.F.plainAttrs_list PySem.F.slot_list_append PySem.F.type_list_append mt_append (pv 5) (pa_cons (pe_bm PySem.F.plainAttrs_list PySem.F.slot_list_pop PySem.F.type_list_pop mt_popAt (pv 5) (pa_cons pe_int pa_nil)) pa_nil))))
  (pss_one (ps_if (PW.pt (pw_and (pt_cmpR op_eq (pv 10) pe_int (nomark _)) (pw_and1 (pt_cmpR op_gt (pe_callB call_lenD (by rfl) B.len PySem.boot_len (pa_cons (pv 6) pa_nil)) pe_int (nomark _)))))
  (pss_cons (ps_set (i := 11) sc__law_spoilt.nd rfl (by first | exact Or.inl rfl | exact Or.inr rfl) (pe_ix ix_list (pv 7) (pe_has G_pick (hr.mono (by omega)) (pa_cons (pv 0) (pa_cons (pe_callB call_len (by rfl) B.len PySem.boot_len (pa_cons (pv 7) pa_nil)) pa_nil))) (fun _ _ => rfl)))
  (pss_one (ps_dput hu (pv 6) (pv 11) (pe_op op_add (pe_op op_mod (pe_callTy call_int1 (by rfl) B.int (by decide +kernel) (pa_cons (pe_dget2 hu (pv 6) (pv 11) pe_int ⟨rfl, rfl, rfl, rfl⟩) pa_nil)) pe_int) pe_int) rfl)))
  (pss_one (ps_if (PW.pt (pw_and (pt_cmpR op_eq (pv 10) pe_int (nomark _)) (pw_and1 (pt_cmpR op_gt (pe_callB call_len (by rfl) B.len PySem.boot_len (pa_cons (pv 4) pa_nil)) pe_int (nomark _)))))
  (pss_one (ps_asg (pe_ix ix_list (pv 4) (pe_has G_pick (hr.mono (by omega)) (pa_cons (pv 0) (pa_cons (pe_callB call_len (by rfl) B.len PySem.boot_len (pa_cons (pv 4) pa_nil)) pa_nil))) (fun _ _ => rfl)) (pg_sub (pv 4) (pe_has G_pick (hr.mono (by omega)) (pa_cons (pv 0) (pa_cons (pe_callB call_len (by rfl) B.len PySem.boot_len (pa_cons (pv 4) pa_nil)) pa_nil))) set_list)))
  pss_nil)))))))
  (pss_cons (ps_set (i := 12) sc__law_spoilt.nd rfl (by first | exact Or.inl rfl | exact Or.inr rfl) (pe_lst pa_nil))
  (pss_cons (ps_for PassesOwn.never rfl (pi_list (pv 4)) (pg_tup rfl (pgs_cons (pg_name (i := 8) sc__law_spoilt.nd rfl (by first | exact Or.inl rfl | exact Or.inr rfl)) (pgs_cons (pg_name (i := 9) sc__law_spoilt.nd rfl (by first | exact Or.inl rfl | exact Or.inr rfl)) pgs_nil)))
  (pss_one (ps_set (i := 12) sc__law_spoilt.nd rfl (by first | exact Or.inl rfl | exact Or.inr rfl) (pe_op op_cat (pv 12) (pe_lc (own := [("_law_symbol", 14)]) (g := gName 14) (by rfl) sc__law_spoilt.nd (pi_list (pv 9)) (blkOk_by (own := [("_law_symbol", 14)]) (N := N__law_spoilt) (sc := defScope s__law_spoilt) (by decide +kernel)) (fun _ _ _ _ _ => (pg_name (i := 14) sc__law_spoilt.nd rfl (by first | exact Or.inl rfl | exact Or.inr rfl))) (fun _ _ _ _ _ => pts_one (pt_val (pe_callB (r := rIsi K) call_isi (by rfl) B.isinstance (by decide +kernel) (pa_cons (pv 14) (pa_cons (pe_bltn (v := .ty "str") (by rfl) B.str (by decide +kernel) rfl) pa_nil))))) (fun _ _ _ _ _ => (pv 14)))))))
  (pss_cons (ps_setLc (i := 5) (own := [("_law_symbol", 14)]) (g := gName 14) (by rfl) sc__law_spoilt.nd rfl rfl (sw_true rfl rfl rfl (by decide +kernel)) (pi_list (pv 5)) (blkOk_by (own := [("_law_symbol", 14)]) (N := N__law_spoilt) (sc := defScope s__law_spoilt) (by decide +kernel)) (fun _ _ _ _ _ => (pg_name (i := 14) sc__law_spoilt.nd rfl (by first | exact Or.inl rfl | exact Or.inr rfl))) (fun _ _ _ _ _ => pts_nil) (fun _ _ _ _ _ => (pe_ifExp (PW.pt (pw_or (pt_cmpR (r := rIn K false) op_in_seq (pv 14) (pv 12) (by rfl)) (pw_or1 (pt_not (pt_val (pe_callB (r := rIsi K) call_isi (by rfl) B.isinstance (by decide +kernel) (pa_cons (pv 14) (pa_cons (pe_bltn (v := .ty "str") (by rfl) B.str (by decide +kernel) rfl) pa_nil)))))))) (pv 14) pe_int)))
  (pss_cons (ps_set (i := 13) sc__law_spoilt.nd rfl (by first | exact Or.inl rfl | exact Or.inr rfl) pe_dnewK)
  (pss_cons (ps_lock (ps_for PassesOwn.never rfl (pi_keys (pv 6)) (pg_name (i := 11) sc__law_spoilt.nd rfl (by first | exact Or.inl rfl | exact Or.inr rfl))
  (pss_one (ps_if (pt_cmpR op_in_seq (pv 11) (pv 12) (by rfl))
  (pss_one (ps_dput hu (pv 13) (pv 11) (pe_dget hu (pv 6) (pv 11) (fun _ _ => rfl)) rfl))
  pss_nil))))
  (pss_one (ps_ret (pe_tup (pa_cons (pv 4) (pa_cons (pv 5) (pa_cons (pv 13) pa_nil)))))))))))))))))), ?_⟩
    obtain ⟨⟨xs0, hR, RX⟩, Rb, hG, Gb, hW, Wb, okp, okg, okw⟩ := id RA
    have ne_b : ∀ {x : Addr}, H x = none → x ≠ b := fun {x} h z => by
      obtain ⟨o, ho⟩ := BG.someB
      rw [← z, h] at ho; cases ho
    have ne_c : ∀ {x : Addr}, H x = none → x ≠ c := fun {x} h z => by
      obtain ⟨o, ho⟩ := BG.someC
      rw [← z, h] at ho; cases ho
    have l6 := okp.1
    have lx0 : xs0.length = ps.length := RX.len
    have w24 := okw.len
    have n24 := namesP_len okp
    -- the rows copied
    refine ⟨_, rfl, R, rfl, ⟨_, SqL.of hR⟩, fun M hM => ?_⟩
    refine lc_it (walk_list (xs := xs0)) (fun j H' => (∃ zs bs, H' M = some (.lst zs) ∧ RawB H' zs (ps.take j) bs ∧ bs.Nodup ∧ (∀ x ∈ bs, H x = none ∧ x ≠ M ∧ ∃ o, H' x = some o) ∧ zs.length = j) ∧ Kp [] H H') ⟨⟨[], [], upd_same, .nil, List.nodup_nil, (fun x h => nomatch h), rfl⟩, Kp.new hM⟩ (fun j H' _ h => SqL.of (h.2.at_ _ _ hR (fun z => nomatch z))) (fun j u H1 H2 hj h1 hy => ?_) (fun H1 h1 => ?_)
    · obtain ⟨⟨zs, bs, hz, RB, nd, fr, lz⟩, k1⟩ := h1
      obtain ⟨rfl, hu1⟩ := hy
      obtain ⟨ra, rb, r, rfl, hr1, hra, hrb, _⟩ := RX.get hu1
      have hra1 := k1.tp _ _ hra
      refine ⟨ra, _, rfl, SqT.of hra1, rfl, _, _, rfl, _, _, rfl, rfl, ?_⟩
      refine ⟨rfl, _, rfl, _, rfl, rb, _, rfl, .inl (SqL.of (k1.at_ _ _ hrb (fun z => nomatch z))), fun l hl => ?_⟩
      have kl := Kp.new (ms := []) (o := .lst (r.2.map kV)) hl
      refine ⟨by show 2 ≤ sizeLine; decide, fun t ht => ?_⟩
      have kt := kl.snoc (o := .tup [.str r.1, .ref l]) ht
      have hz2 := kt.at_ _ _ hz (fun z => nomatch z)
      refine ⟨zs, hz2, by rw [lz]; omega, ?_⟩
      have hl2 := (Kp.new (ms := []) (o := .tup [.str r.1, .ref l]) ht).at_ _ _ (upd_same (a := l)) (fun z => nomatch z)
      have htt : upd (upd H2 l (.lst (r.2.map kV))) t (.tup [.str r.1, .ref l]) t = some (.tup [.str r.1, .ref l]) := upd_same
      generalize upd (upd H2 l (.lst (r.2.map kV))) t (.tup [.str r.1, .ref l]) = H3 at kt hz2 hl2 htt
      have lM : l ≠ M := fun z => by rw [z] at hl; rw [hl] at hz; cases hz
      have kM : Kp [M] H3 (upd H3 M (.lst (zs ++ [.ref t]))) := Kp.updL hz2 (by simp)
      have lH : H l = none := k1.same.free hl
      refine ⟨⟨zs ++ [.ref t], bs ++ [l], upd_same, ?_, ?_, fun x hx => ?_, by simp [lz]⟩, (k1.trans kt).late hM⟩
      · rw [take_snoc hr1]
        refine RawB.snoc (kM.tp _ _ htt) (kM.at_ _ _ hl2 (by simpa using lM)) ?_
        exact (RB.kp kt (fun x _ z => nomatch z)).kp kM (fun x hx z => (fr x hx).2.1 (List.mem_singleton.mp z))
      · rw [List.nodup_append]
        refine ⟨nd, by simp, fun x hx y hy z => ?_⟩
        rw [List.mem_singleton.mp hy] at z
        obtain ⟨o, ho⟩ := (fr x hx).2.2
        rw [z, hl] at ho; cases ho
      · rcases List.mem_append.mp hx with h | h
        · obtain ⟨f1, f2, o, ho⟩ := fr x h
          exact ⟨f1, f2, o, by rw [upd_ne f2]; exact kt.at_ _ _ ho (fun z => nomatch z)⟩
        · rw [List.mem_singleton.mp h]
          exact ⟨lH, lM, _, by rw [upd_ne lM]; exact hl2⟩
    · obtain ⟨⟨zs, bs, hz, RB, nd, fr, lz⟩, k1⟩ := h1
      rw [lx0, List.take_length] at RB
      have fr : ∀ x ∈ bs, H x = none := fun x hx => (fr x hx).1
      have bsb : ∀ x ∈ bs, x ≠ b := fun x hx => ne_b (fr x hx)
      -- group and powers copied
      refine ⟨_, rfl, G, _, rfl, .inl (SqL.of (k1.at_ _ _ hG (fun z => nomatch z))), fun T hT => ?_⟩
      have k2 := Kp.new (ms := []) (o := .lst (g.map kV)) hT
      have hTT : upd H1 T (.lst (g.map kV)) T = some (.lst (g.map kV)) := upd_same
      have TH : H T = none := k1.same.free hT
      have k12 := k1.trans k2
      have hz2 := k2.at_ _ _ hz (fun z => nomatch z)
      have RB2 := RB.kp k2 (fun x _ z => nomatch z)
      have TM : T ≠ M := fun z => by rw [z] at hT; rw [hT] at hz; cases hz
      generalize upd H1 T (.lst (g.map kV)) = H2 at k2 hTT k12 hz2 RB2
      refine ⟨_, rfl, W, _, rfl, .inl (k12.at_ _ _ hW (fun z => nomatch z)), fun Vd hV => ?_⟩
      have k3 := Kp.new (ms := []) (o := .dK (pwKv pw)) hV
      have hVV : upd H2 Vd (.dK (pwKv pw)) Vd = some (.dK (pwKv pw)) := upd_same
      have VH : H Vd = none := k12.same.free hV
      have k13 := k12.trans k3
      have hz3 := k3.at_ _ _ hz2 (fun z => nomatch z)
      have hT3 := k3.at_ _ _ hTT (fun z => nomatch z)
      have RB3 := RB2.kp k3 (fun x _ z => nomatch z)
      have VM : Vd ≠ M := fun z => by rw [z] at hV; rw [hV] at hz2; cases hz2
      have VT : Vd ≠ T := fun z => by rw [z] at hV; rw [hV] at hTT; cases hTT
      generalize upd H2 Vd (.dK (pwKv pw)) = H3 at k3 hVV k13 hz3 hT3 RB3
      -- the unknowns used
      refine ⟨by show 0 ≤ sizeLine; decide, fun U0 hU0 => ?_⟩
      have k4 : Kp [] H3 (upd H3 U0 (.lst [])) := Kp.new hU0
      refine ⟨_, rfl, R, rfl, ⟨_, SqL.of ((k13.trans k4).at_ _ _ hR (fun z => nomatch z))⟩, ?_⟩
      refine for_it (walk_list (xs := xs0)) (fun i σ H' => (∃ (o8 o9 : Option V) (Ua : Addr), σ = [some (V.ref b), some (.ref R), some (.ref G), some (.ref W), some (.ref M), some (.ref T), some (.ref Vd), some (.ref Ua), o8, o9, none, none, none, none, none] ∧ H' Ua = some (.lst ((usL (ps.take i)).map V.str))) ∧ Kp [] H3 H') ⟨⟨none, none, U0, rfl, upd_same⟩, k4⟩ (fun i σ H' _ h => SqL.of ((k13.trans h.2).at_ _ _ hR (fun z => nomatch z))) ?_ ?_
      · rintro i u σ Hx H6 hi ⟨⟨o8, o9, Ua, rfl, hUa⟩, k36⟩ ⟨rfl, hu1⟩
        obtain ⟨ra, rb, r, rfl, hr1, hra, hrb, hrbb⟩ := RX.get hu1
        have hrb6 := (k13.trans k36).at_ _ _ hrb (fun z => nomatch z)
        have okr := okp.2 r (List.mem_of_getElem? hr1)
        have lu : (usL (ps.take i)).length ≤ 24 := by
          have := usL_len (ps := ps.take i) fun x hx => (okp.2 x (List.mem_of_mem_take hx)).2.2.1
          rw [List.length_take] at this
          omega
        refine ⟨ra, _, rfl, SqT.of ((k13.trans k36).tp _ _ hra), rfl, _, _, rfl, _, _, rfl, rfl, ?_⟩
        refine ⟨_, rfl, _, rfl, rb, rfl, ⟨_, SqL.of hrb6⟩, fun L hL => ?_⟩
        refine lc_it (walk_list (xs := r.2.map kV)) (fun q H' => H' L = some (.lst ((strsK (r.2.take q)).map V.str)) ∧ Kp [] H6 H') ⟨upd_same, Kp.new hL⟩ (fun q H' _ h => SqL.of (h.2.at_ _ _ hrb6 (fun z => nomatch z))) (fun q u H7 H8 hq h7 hy => ?_) (fun H7 h7 => ?_)
        · obtain ⟨h7, k7⟩ := h7
          obtain ⟨rfl, hu2⟩ := hy
          rw [List.length_map] at hq
          obtain ⟨key, ek⟩ : ∃ key, r.2[q]? = some key := ⟨_, List.getElem?_eq_getElem hq⟩
          rw [List.getElem?_map, ek] at hu2
          cases hu2
          refine ⟨rfl, _, rfl, _, _, _, _, _, rfl, .ty _, kV_ty, kit_ty (kb_key key), _, rfl, ?_⟩
          rw [strsK_snoc ek]
          cases key with
          | inl iy => exact iteF ⟨by rw [show strK (.inl iy) = [] from rfl, List.append_nil]; exact h7, k7⟩
          | inr sy =>
            refine iteT ⟨_, rfl, _, h7, ?_, by rw [upd_same, List.map_append]; rfl, k7.late hL⟩
            have := strsK_len (r.2.take q)
            rw [List.length_take] at this
            rw [List.length_map]
            exact small1000 (by omega)
        · obtain ⟨h7, k7⟩ := h7
          rw [List.length_map, List.take_length] at h7
          have := strsK_len r.2
          refine ⟨Ua, L, _, _, rfl, rfl, k7.at_ _ _ hUa (fun z => nomatch z), h7, by rw [List.length_map, List.length_map]; omega, fun N hN => ?_⟩
          exact ⟨⟨_, _, N, rfl, by rw [upd_same, usL_snoc hr1, List.map_append]⟩, (k36.trans k7).snoc hN⟩
      · rintro σ H5 ⟨⟨o8, o9, Ua, rfl, hUa⟩, k35⟩
        rw [lx0, List.take_length] at hUa
        have k15 := k13.trans k35
        have UaH : ∃ o, H5 Ua = some o := ⟨_, hUa⟩
        have Uab : Ua ≠ b := fun z => by
          obtain ⟨_, _, _, _, _, hb, _⟩ := (BG.keep0 k15).bg
          rw [z, hb] at hUa
          cases e : usL ps with
          | nil => rw [e] at hUa; cases hUa
          | cons x xs => rw [e] at hUa; cases hUa
        have lus : (usL ps).length ≤ 24 := by
          have := usL_len fun x hx => (okp.2 x hx).2.2.1
          omega
        have usS : ∀ u ∈ usL ps, u.length ≤ 1000000 := fun u hu => by
          obtain ⟨r, hr, hk⟩ := usL_mem.mp hu
          exact (okp.2 r hr).2.2.2 _ hk
        refine ⟨_, rfl, b, c, 6, rfl, BG.keep0 k15, by decide, by decide, fun kd H6 kd0 kd1 BG6 k6 => ?_⟩
        have Mb := ne_b hM
        have Tb := ne_b TH
        have Vb := ne_b VH
        have hz6 := k6.at_ _ _ (k35.at_ _ _ hz3 (fun z => nomatch z)) (by simpa using Mb)
        have hT6 := k6.at_ _ _ (k35.at_ _ _ hT3 (fun z => nomatch z)) (by simpa using Tb)
        have hV6 := k6.at_ _ _ (k35.at_ _ _ hVV (fun z => nomatch z)) (by simpa using Vb)
        have hU6 := k6.at_ _ _ hUa (by simpa using Uab)
        have RB6 := (RB3.kp k35 (fun x _ z => nomatch z)).kp k6 (fun x hx z => bsb x hx (List.mem_singleton.mp z))
        have k06 : Kp [b] H H6 := k15.zero.trans k6
        have pq : PwQ pw := ⟨okw.1, fun p hp => (okw.2 p hp).2⟩
        have inv0 : ∀ {o8 o9 o11 : Option V}, SpInv b c R G W M T Vd Ua kd H [some (.ref b), some (.ref R), some (.ref G), some (.ref W), some (.ref M), some (.ref T), some (.ref Vd), some (.ref Ua), o8, o9, some (.int kd), o11, none, none, none] H6 := fun {o8 o9 o11} =>
          ⟨o8, o9, o11, ps, g, pw, zs, rfl, BG6, k06, hz6, RB6.raw (fun x hx z => bsb x hx (List.mem_singleton.mp z)), okp, hT6, okg.1, okg.2.1, hV6, pq, by omega⟩
        refine ⟨SpInv b c R G W M T Vd Ua kd H, ?_, ?_⟩
        · have lz6 : zs.length = ps.length := RB6.len
          have dk : ∀ {n : Int}, kd ≠ n → decide (V.int kd = V.int n) = false := fun {n} h => decide_eq_false fun z => h (by injection z)
          by_cases hk3 : kd < 3
          · refine ⟨_, rfl, _, _, rfl, rfl, _, rfl, iteTs (decide_eq_true hk3) ?_⟩
            refine ⟨_, rfl, _, _, rfl, .inl ⟨_, SqL.of hU6, rfl⟩, _, _, rfl, rfl, _, rfl, ite2 (fun hpos => ?_) (fun _ => ?_)⟩
            · have upos : 0 < (usL ps).length := by have := of_decide_eq_true hpos; rw [List.length_map] at this; omega
              have psne : 0 < ps.length := by
                cases ps with
                | nil => cases upos
                | cons r rs => simp
              refine ⟨_, rfl, _, rfl, _, rfl, _, _, rfl, .inl ⟨_, SqL.of hz6, rfl⟩, b, c, (zs.length : Int), rfl, BG6, by omega, by omega, fun v1 H7 v10 v11 BG7 k7 => ?_⟩
              obtain ⟨r, hr⟩ : ∃ r, ps[v1.toNat]? = some r := ⟨_, List.getElem?_eq_getElem (by omega)⟩
              have RB7 := RB6.kp k7 (fun x hx z => bsb x hx (List.mem_singleton.mp z))
              have hz7 := k7.at_ _ _ hz6 (by simpa using Mb)
              obtain ⟨ra, sb, ex, eb, hra, hsb⟩ := RB7.at_ hr
              have okr := okp.2 r (List.mem_of_getElem? hr)
              refine ⟨M, zs, v1, .ref ra, rfl, rfl, SqL.of hz7, atI_of v10 ex, ra, _, 1, .ref sb, rfl, rfl, SqT.of hra, rfl, ?_⟩
              have hU7 := k7.at_ _ _ hU6 (by simpa using Uab)
              refine ⟨_, rfl, _, rfl, _, rfl, _, _, rfl, .inl ⟨_, SqL.of hU7, rfl⟩, b, c, (((usL ps).map V.str).length : Int), rfl, BG7, by rw [List.length_map]; omega, by rw [List.length_map]; omega, fun v2 H8 v20 v21 BG8 k8 => ?_⟩
              rw [List.length_map] at v21
              obtain ⟨u, hu1⟩ : ∃ u, (usL ps)[v2.toNat]? = some u := ⟨_, List.getElem?_eq_getElem (by omega)⟩
              have hU8 := k8.at_ _ _ hU7 (by simpa using Uab)
              refine ⟨Ua, _, v2, .str u, rfl, rfl, SqL.of hU8, atI_of v20 (by rw [List.getElem?_map, hu1]; rfl), ?_⟩
              refine ⟨_, rfl, b, c, rfl, BG8, fun n H9 hn BG9 k9 => ?_⟩
              refine ⟨by show 3 ≤ sizeLine; decide, fun l hl => ?_⟩
              obtain ⟨kk, okk, ekk⟩ := pick3 (usS u (List.mem_of_getElem? hu1)) hn kd0 hk3
              have k10 := Kp.new (ms := []) (o := .lst [V.str u, V.str "fresh", V.int n]) hl
              refine ⟨_, rfl, l, _, kd, kV kk, rfl, rfl, SqL.of upd_same, atI_of kd0 ekk, ?_⟩
              have k710 : Kp [b] H7 (upd H9 l (.lst [V.str u, V.str "fresh", V.int n])) := (k8.trans k9).trans k10.zero
              have BG10 := BG9.keep0 k10
              generalize upd H9 l (.lst [V.str u, V.str "fresh", V.int n]) = H10 at k710 BG10
              have sbH : H sb = none := fr sb (List.mem_of_getElem? eb)
              have sbb : sb ≠ b := ne_b sbH
              have hsb10 := k710.at_ _ _ hsb (by simpa using sbb)
              have lr : (r.2.map kV).length = r.2.length := List.length_map ..
              refine ⟨_, rfl, _, rfl, _, rfl, _, _, rfl, .inl ⟨_, SqL.of hsb10, rfl⟩, b, c, ((r.2.map kV).length : Int), rfl, BG10, by omega, by omega, fun v3 H11 v30 v31 BG11 k11 => ?_⟩
              have k711 := k710.trans k11
              have hsb11 := k711.at_ _ _ hsb (by simpa using sbb)
              have RB11 := RB7.kp k711 (fun x hx z => bsb x hx (List.mem_singleton.mp z))
              have hv3 : v3.toNat < (r.2.map kV).length := by omega
              have e0 : ((v3.toNat : Nat) : Int) = v3 := Int.toNat_of_nonneg v30
              refine ⟨sb, _, v3, v3.toNat, rfl, rfl, hsb11, e0 ▸ ixN_nat hv3, ?_⟩
              have es : (r.2.map kV).set v3.toNat (kV kk) = (r.2.set v3.toNat kk).map kV := List.map_set.symm
              rw [es]
              have RBp := RB11.put (ks := r.2.set v3.toNat kk) nd hr eb
              have k611 : Kp [b] H6 H11 := k7.trans k711
              have hz11 := k611.at_ _ _ hz6 (by simpa using Mb)
              have hT11 := k611.at_ _ _ hT6 (by simpa using Tb)
              have hV11 := k611.at_ _ _ hV6 (by simpa using Vb)
              have sM : M ≠ sb := fun z => by
                rw [z, hsb11] at hz11
                cases er : r.2 with
                | nil => have := okr.2.1; rw [er] at this; simp at this
                | cons y ys =>
                  rw [er] at hz11
                  obtain ⟨a', b', e', _⟩ := RB11.at_ (i := 0) (r := ps[0]) (List.getElem?_eq_getElem psne)
                  have e2 : zs = (y :: ys).map kV := by cases hz11; rfl
                  rw [e2] at e'
                  cases y <;> cases e'
              have sT : T ≠ sb := fun z => by
                have h0 := k1.same.free hT
                have : H1 sb = none := by rw [← z]; exact hT
                obtain ⟨_, b', _, eb', _, hb'⟩ := RB.at_ hr
                rw [eb] at eb'
                cases eb'
                rw [this] at hb'; cases hb'
              have sV : Vd ≠ sb := fun z => by
                rw [z, hsb11] at hV11; cases hV11
              refine ⟨_, _, _, ps.set v1.toNat (r.1, r.2.set v3.toNat kk), g, pw, zs, rfl, BG11.keep (ms := [sb]) (Kp.updL hsb11 (by simp)) (by simpa using Ne.symm sbb) (by simpa using Ne.symm (ne_c sbH)), (k06.trans k611).late sbH, by rw [upd_ne sM]; exact hz11, RBp.raw (fun x hx z => bsb x hx (List.mem_singleton.mp z)), psOk_set okp hr (by rw [List.length_set]) (fun k hk => ?_), by rw [upd_ne sT]; exact hT11, okg.1, okg.2.1, by rw [upd_ne sV]; exact hV11, pq, by omega⟩
              rcases List.mem_or_eq_of_mem_set hk with h | rfl
              · exact okr.2.2.2 k h
              · exact okk
            · refine ⟨_, rfl, rfl, _, rfl, iteFs (dk (by omega)) (iteF (A := True) ?_)⟩
              refine ⟨_, rfl, rfl, _, rfl, iteFs (dk (by omega)) (iteF (A := True) ?_)⟩
              exact ⟨_, rfl, rfl, _, rfl, iteFs (dk (by omega)) (iteF (A := True) inv0)⟩
          · refine ⟨_, rfl, _, _, rfl, rfl, _, rfl, iteFs (decide_eq_false hk3) (iteF (A := True) ?_)⟩
            by_cases e3 : kd = 3
            · subst e3
              refine ⟨_, rfl, rfl, _, rfl, iteTs (decide_eq_true rfl) ?_⟩
              refine ⟨_, rfl, _, _, rfl, .inl ⟨_, SqL.of hT6, rfl⟩, _, _, rfl, rfl, _, rfl, ite2 (fun hpos => ?_) (fun _ => ?_)⟩
              · obtain ⟨gk, gs, eg⟩ : ∃ gk gs, g = gk :: gs := by
                  cases g with
                  | nil => have := of_decide_eq_true hpos; simp at this
                  | cons x xs => exact ⟨x, xs, rfl⟩
                rw [eg] at hT6
                refine ⟨_, rfl, .inl ⟨rfl, _, SqL.of hT6⟩, _, rfl, .inl ⟨rfl, _, SqL.of hT6⟩, ?_⟩
                refine ⟨T, _, 0, 0, kV gk, rfl, rfl, hT6, by omega, by simp, (ixN_seq (ixN_nat (j := 0) (by simp))).1, rfl, ?_⟩
                have kT : Kp [T] H6 (upd H6 T (.lst (((gk :: gs).map kV).eraseIdx 0))) := Kp.updL hT6 (by simp)
                refine ⟨T, _, _, rfl, rfl, upd_same, ?_, ?_⟩
                · show (gs.map kV).length < sizeLine
                  rw [List.length_map]
                  have := okg.1
                  rw [eg, List.length_cons] at this
                  omega
                · rw [upd_upd]
                  have kTT : Kp [T] H6 (upd H6 T (.lst (((gk :: gs).map kV).eraseIdx 0 ++ [kV gk]))) := Kp.updL hT6 (by simp)
                  have eT : ((gk :: gs).map kV).eraseIdx 0 ++ [kV gk] = (gs ++ [gk]).map kV := by
                    rw [List.map_append]; rfl
                  rw [eT] at kTT ⊢
                  have gg : g.length ≤ 3 ∧ ∀ k ∈ g, SymOk k := ⟨okg.1, okg.2.1⟩
                  rw [eg] at gg
                  refine ⟨_, _, _, ps, gs ++ [gk], pw, zs, rfl, BG6.keep kTT (by simpa using Ne.symm Tb) (by simpa using Ne.symm (ne_c TH)), k06.late TH, kTT.at_ _ _ hz6 (by simpa using Ne.symm TM), (RB6.kp kTT (fun x hx z => ?_)).raw (fun x hx z => bsb x hx (List.mem_singleton.mp z)), okp, upd_same, by simpa using gg.1, fun k hk => ?_, kTT.at_ _ _ hV6 (by simpa using VT), pq, by omega⟩
                  · have z := List.mem_singleton.mp z
                    have : H1 x = none := by rw [z]; exact hT
                    obtain ⟨i, hi⟩ := List.mem_iff_getElem?.mp hx
                    have hl : i < ps.length := by
                      have := RB.blen
                      have := (List.getElem?_eq_some_iff.mp hi).1
                      omega
                    obtain ⟨_, b', _, eb', _, hb'⟩ := RB.at_ (List.getElem?_eq_getElem hl)
                    rw [hi] at eb'
                    cases eb'
                    rw [this] at hb'; cases hb'
                  · rcases List.mem_append.mp hk with h | h
                    · exact gg.2 k (List.mem_cons_of_mem _ h)
                    · rw [List.mem_singleton.mp h]; exact gg.2 gk List.mem_cons_self
              · refine ⟨_, rfl, rfl, _, rfl, iteFs (dk (by omega)) (iteF (A := True) ?_)⟩
                exact ⟨_, rfl, rfl, _, rfl, iteFs (dk (by omega)) (iteF (A := True) inv0)⟩
            · refine ⟨_, rfl, rfl, _, rfl, iteFs (dk e3) (iteF (A := True) ?_)⟩
              by_cases e4 : kd = 4
              · subst e4
                refine ⟨_, rfl, rfl, _, rfl, iteTs (decide_eq_true rfl) ?_⟩
                refine ⟨_, rfl, Vd, _, rfl, hV6, _, _, rfl, rfl, _, rfl, ite2 (fun hpos => ?_) (fun _ => ?_)⟩
                · have ppos : 0 < pw.length := by
                    have h := of_decide_eq_true hpos
                    have e : (pwKv pw).length = pw.length := List.length_map ..
                    omega
                  have upos : 0 < (usL ps).length := by
                    obtain ⟨p, hp⟩ := List.exists_mem_of_length_pos ppos
                    obtain ⟨r, hr, hk⟩ := names_back (okw.2 p hp).1
                    exact List.length_pos_of_mem (usL_mem.mpr ⟨r, hr, hk⟩)
                  refine ⟨_, rfl, _, rfl, _, rfl, _, _, rfl, .inl ⟨_, SqL.of hU6, rfl⟩, b, c, (((usL ps).map V.str).length : Int), rfl, BG6, by rw [List.length_map]; omega, by rw [List.length_map]; omega, fun v2 H8 v20 v21 BG8 k8 => ?_⟩
                  rw [List.length_map] at v21
                  obtain ⟨u, hu1⟩ : ∃ u, (usL ps)[v2.toNat]? = some u := ⟨_, List.getElem?_eq_getElem (by omega)⟩
                  have hU8 := k8.at_ _ _ hU6 (by simpa using Uab)
                  have hV8 := k8.at_ _ _ hV6 (by simpa using Vb)
                  refine ⟨Ua, _, v2, .str u, rfl, rfl, SqL.of hU8, atI_of v20 (by rw [List.getElem?_map, hu1]; rfl), ?_⟩
                  obtain ⟨x, hx⟩ := pwKv_int pw (.inr u)
                  refine ⟨_, rfl, Vd, rfl, .inl ⟨_, .inl hV8⟩, _, rfl, _, .inl ⟨_, .inr u, .inl hV8, rfl, rfl⟩, ?_⟩
                  rw [hx]
                  refine .inl ⟨x, rfl, _, _, rfl, rfl, (by show (0 : Int) < 100; decide), _, _, rfl, rfl, ?_⟩
                  refine ⟨_, rfl, _, rfl, Vd, _, rfl, .inl ⟨_, .inr u, hV8, rfl, ?_, rfl⟩, ?_⟩
                  · show (pwKv pw).length < sizeLine
                    have e : (pwKv pw).length = pw.length := List.length_map ..
                    omega
                  · rw [pwKv_put]
                    have kV8 : Kp [Vd] H8 (upd H8 Vd (.dK (pwKv (putW pw u (x % 100 + 1))))) := Kp.set hV8 (fun _ z => by cases z) (by simp)
                    have k68 := k06.trans k8
                    have RB8 := RB6.kp k8 (fun x hx z => bsb x hx (List.mem_singleton.mp z))
                    refine ⟨_, _, _, ps, g, _, zs, rfl, BG8.keep kV8 (by simpa using Ne.symm Vb) (by simpa using Ne.symm (ne_c VH)), k68.late VH, kV8.at_ _ _ (k8.at_ _ _ hz6 (by simpa using Mb)) (by simpa using Ne.symm VM), (RB8.kp kV8 (fun x hx z => ?_)).raw (fun x hx z => bsb x hx (List.mem_singleton.mp z)), okp, kV8.at_ _ _ (k8.at_ _ _ hT6 (by simpa using Tb)) (by simpa using Ne.symm VT), okg.1, okg.2.1, upd_same, putW_q pq (by omega) (by omega), by have := putW_len pw u (x % 100 + 1); omega⟩
                    have z := List.mem_singleton.mp z
                    obtain ⟨i, hi⟩ := List.mem_iff_getElem?.mp hx
                    have hl : i < ps.length := by
                      have := RB8.blen
                      have := (List.getElem?_eq_some_iff.mp hi).1
                      omega
                    obtain ⟨_, b', _, eb', _, hb'⟩ := RB8.at_ (List.getElem?_eq_getElem hl)
                    rw [hi] at eb'
                    cases eb'
                    rw [z, hV8] at hb'; cases hb'
                · exact ⟨_, rfl, rfl, _, rfl, iteFs (dk (by omega)) (iteF (A := True) inv0)⟩
              · refine ⟨_, rfl, rfl, _, rfl, iteFs (dk e4) (iteF (A := True) ?_)⟩
                have e5 : kd = 5 := by omega
                subst e5
                refine ⟨_, rfl, rfl, _, rfl, iteTs (decide_eq_true rfl) ?_⟩
                refine ⟨_, rfl, _, _, rfl, .inl ⟨_, SqL.of hz6, rfl⟩, _, _, rfl, rfl, _, rfl, ite2 (fun hpos => ?_) (fun _ => inv0)⟩
                have zpos : 1 < zs.length := by have := of_decide_eq_true hpos; omega
                refine ⟨_, rfl, _, rfl, _, rfl, _, _, rfl, .inl ⟨_, SqL.of hz6, rfl⟩, b, c, (zs.length : Int), rfl, BG6, by omega, by omega, fun v1 H7 v10 v11 BG7 k7 => ?_⟩
                have RB7 := RB6.kp k7 (fun x hx z => bsb x hx (List.mem_singleton.mp z))
                have hz7 := k7.at_ _ _ hz6 (by simpa using Mb)
                obtain ⟨r, hr⟩ : ∃ r, ps[v1.toNat]? = some r := ⟨_, List.getElem?_eq_getElem (by omega)⟩
                obtain ⟨ra, sb, ex, eb, hra, hsb⟩ := RB7.at_ hr
                refine ⟨M, zs, v1, .ref ra, rfl, rfl, SqL.of hz7, atI_of v10 ex, ?_⟩
                refine ⟨_, rfl, _, rfl, _, rfl, _, _, rfl, .inl ⟨_, SqL.of hz7, rfl⟩, b, c, (zs.length : Int), rfl, BG7, by omega, by omega, fun v2 H8 v20 v21 BG8 k8 => ?_⟩
                have hz8 := k8.at_ _ _ hz7 (by simpa using Mb)
                have e0 : ((v2.toNat : Nat) : Int) = v2 := Int.toNat_of_nonneg v20
                refine ⟨M, zs, v2, v2.toNat, rfl, rfl, hz8, e0 ▸ ixN_nat (by omega), ?_⟩
                have kM8 : Kp [M] H8 (upd H8 M (.lst (zs.set v2.toNat (.ref ra)))) := Kp.updL hz8 (by simp)
                have k78 := k7.trans k8
                have RB8 := RB7.kp k8 (fun x hx z => bsb x hx (List.mem_singleton.mp z))
                have bsM : ∀ x ∈ bs, x ≠ M := fun x hx z => by
                  obtain ⟨i, hi⟩ := List.mem_iff_getElem?.mp hx
                  have hl : i < ps.length := by
                    have := RB8.blen
                    have := (List.getElem?_eq_some_iff.mp hi).1
                    omega
                  obtain ⟨_, b', _, eb', _, hb'⟩ := RB8.at_ (List.getElem?_eq_getElem hl)
                  rw [hi] at eb'
                  cases eb'
                  rw [z, hz8] at hb'
                  have e2 : zs = (ps[i].2).map kV := by cases hb'; rfl
                  obtain ⟨a', _, e', _⟩ := RB8.at_ (i := 0) (r := ps[0]'(by omega)) (List.getElem?_eq_getElem (by omega))
                  rw [e2] at e'
                  cases hq : ps[i].2 with
                  | nil => rw [hq] at e'; cases e'
                  | cons y ys => rw [hq] at e'; cases y <;> cases e'
                have raw8 : RawAll [b] (upd H8 M (.lst (zs.set v2.toNat (.ref ra)))) zs ps := (RB8.kp kM8 (fun x hx z => bsM x hx (List.mem_singleton.mp z))).raw (fun x hx z => bsb x hx (List.mem_singleton.mp z))
                exact ⟨_, _, _, ps.set v2.toNat r, g, pw, zs.set v2.toNat (.ref ra), rfl, BG8.keep kM8 (by simpa using Ne.symm Mb) (by simpa using Ne.symm (ne_c hM)), (k06.trans k78).late hM, upd_same, raw8.set ex hr, psOk_setR okp (List.mem_of_getElem? hr), kM8.at_ _ _ (k78.at_ _ _ hT6 (by simpa using Tb)) (by simpa using TM), okg.1, okg.2.1, kM8.at_ _ _ (k78.at_ _ _ hV6 (by simpa using Vb)) (by simpa using VM), pq, by omega⟩
        · rintro σ H7 ⟨o8', o9', o11', ps1, g1, pw1, zs1, rfl, BG7, k07, hz7, RX7, ok7, hT7, g7, gs7, hV7, pq7, pl7⟩
          have okz := ok7
          have l61 := ok7.1
          have lz1 : zs1.length = ps1.length := RX7.len
          refine ⟨by show 0 ≤ sizeLine; decide, fun U0 hU0 => ?_⟩
          have k8 : Kp [] H7 (upd H7 U0 (.lst [])) := Kp.new hU0
          refine ⟨_, rfl, M, rfl, ⟨_, SqL.of (k8.at_ _ _ hz7 (fun z => nomatch z))⟩, ?_⟩
          refine for_it (walk_list (xs := zs1)) (fun i σ H' => (∃ (o8 o9 : Option V) (La : Addr), σ = [some (V.ref b), some (.ref R), some (.ref G), some (.ref W), some (.ref M), some (.ref T), some (.ref Vd), some (.ref Ua), o8, o9, some (.int kd), o11', some (.ref La), none, none] ∧ H' La = some (.lst ((usL (ps1.take i)).map V.str))) ∧ Kp [] H7 H') ⟨⟨_, _, U0, rfl, upd_same⟩, k8⟩ (fun i σ H' _ h => SqL.of (h.2.at_ _ _ hz7 (fun z => nomatch z))) ?_ ?_
          · rintro i u σ Hx H8 hi ⟨⟨o8, o9, La, rfl, hLa⟩, k78⟩ ⟨rfl, hu1⟩
            obtain ⟨ra, rb, r, rfl, hr1, hra, hrb, hrbb⟩ := RX7.get hu1
            have hrb8 := k78.at_ _ _ hrb (fun z => nomatch z)
            have okr := ok7.2 r (List.mem_of_getElem? hr1)
            have lu : (usL (ps1.take i)).length ≤ 24 := by
              have := usL_len (ps := ps1.take i) fun x hx => (ok7.2 x (List.mem_of_mem_take hx)).2.2.1
              rw [List.length_take] at this
              omega
            refine ⟨ra, _, rfl, SqT.of (k78.tp _ _ hra), rfl, _, _, rfl, _, _, rfl, rfl, ?_⟩
            refine ⟨_, rfl, _, rfl, rb, rfl, ⟨_, SqL.of hrb8⟩, fun L hL => ?_⟩
            refine lc_it (walk_list (xs := r.2.map kV)) (fun q H' => H' L = some (.lst ((strsK (r.2.take q)).map V.str)) ∧ Kp [] H8 H') ⟨upd_same, Kp.new hL⟩ (fun q H' _ h => SqL.of (h.2.at_ _ _ hrb8 (fun z => nomatch z))) (fun q u H9 H10 hq h9 hy => ?_) (fun H9 h9 => ?_)
            · obtain ⟨h9, k9⟩ := h9
              obtain ⟨rfl, hu2⟩ := hy
              rw [List.length_map] at hq
              obtain ⟨key, ek⟩ : ∃ key, r.2[q]? = some key := ⟨_, List.getElem?_eq_getElem hq⟩
              rw [List.getElem?_map, ek] at hu2
              cases hu2
              refine ⟨rfl, _, rfl, _, _, _, _, _, rfl, .ty _, kV_ty, kit_ty (kb_key key), _, rfl, ?_⟩
              rw [strsK_snoc ek]
              cases key with
              | inl iy => exact iteF ⟨by rw [show strK (.inl iy) = [] from rfl, List.append_nil]; exact h9, k9⟩
              | inr sy =>
                refine iteT ⟨_, rfl, _, h9, ?_, by rw [upd_same, List.map_append]; rfl, k9.late hL⟩
                have := strsK_len (r.2.take q)
                rw [List.length_take] at this
                rw [List.length_map]
                exact small1000 (by omega)
            · obtain ⟨h9, k9⟩ := h9
              rw [List.length_map, List.take_length] at h9
              have := strsK_len r.2
              refine ⟨La, L, _, _, rfl, rfl, k9.at_ _ _ hLa (fun z => nomatch z), h9, by rw [List.length_map, List.length_map]; omega, fun N hN => ?_⟩
              exact ⟨⟨_, _, N, rfl, by rw [upd_same, usL_snoc hr1, List.map_append]⟩, (k78.trans k9).snoc hN⟩
          · rintro σ H8 ⟨⟨o8, o9, La, rfl, hLa⟩, k78⟩
            rw [lz1, List.take_length] at hLa
            generalize hus : usL ps1 = us at hLa
            have hT8 := k78.at_ _ _ hT7 (fun z => nomatch z)
            -- the group
            refine ⟨_, rfl, T, rfl, ⟨_, SqL.of hT8⟩, fun N hN => ?_⟩
            refine lc_it (walk_list (xs := g1.map kV)) (fun q H' => H' N = some (.lst (((g1.take q).map (keepK us)).map kV)) ∧ Kp [] H8 H') ⟨upd_same, Kp.new hN⟩ (fun q H' _ h => SqL.of (h.2.at_ _ _ hT8 (fun z => nomatch z))) (fun q u H9 H10 hq h9 hy => ?_) (fun H9 h9 => ?_)
            · obtain ⟨h9, k9⟩ := h9
              obtain ⟨rfl, hu2⟩ := hy
              rw [List.length_map] at hq
              obtain ⟨key, ek⟩ : ∃ key, g1[q]? = some key := ⟨_, List.getElem?_eq_getElem hq⟩
              rw [List.getElem?_map, ek] at hu2
              cases hu2
              have hLa9 := k9.at_ _ _ hLa (fun z => nomatch z)
              have fin : ∀ kk, keepK us key = kk → (∃ acc, H10 N = some (.lst acc) ∧ acc.length < sizeLine ∧ upd H10 N (.lst (acc ++ [kV kk])) N = some (.lst (((g1.take (q + 1)).map (keepK us)).map kV)) ∧ Kp [] H8 (upd H10 N (.lst (acc ++ [kV kk])))) := fun kk e => by
                refine ⟨_, h9, ?_, ?_, k9.late hN⟩
                · rw [List.length_map, List.length_map, List.length_take]
                  exact small1000 (by omega)
                · rw [upd_same, take_snoc ek, List.map_append, List.map_append, ← e]; rfl
              cases key with
              | inl iy =>
                have e1 : inV (kV (.inl iy)) (us.map V.str) = false := by
                  unfold inV
                  rw [List.any_map, Bool.eq_false_iff]
                  intro z
                  obtain ⟨x, _, hx⟩ := List.any_eq_true.mp z
                  cases hx
                refine ⟨rfl, _, rfl, _, rfl, La, _, rfl, .inl (SqL.of hLa9), rfl, flat_strs us, _, rfl, ?_⟩
                rw [e1]
                refine iteF ⟨_, rfl, _, _, _, _, _, rfl, .ty _, kV_ty (k := .inl iy), kit_ty (kb_key (.inl iy)), _, rfl, ?_⟩
                exact iteT ⟨_, rfl, fin _ rfl⟩
              | inr sy =>
                refine ⟨rfl, _, rfl, _, rfl, La, _, rfl, .inl (SqL.of hLa9), rfl, flat_strs us, _, rfl, ?_⟩
                rw [show inV (kV (.inr sy)) (us.map V.str) = decide (sy ∈ us) from inV_strs sy us]
                by_cases hm : sy ∈ us
                · rw [decide_eq_true hm]
                  exact iteT ⟨_, rfl, fin (.inr sy) (if_pos hm)⟩
                · rw [decide_eq_false hm]
                  refine iteF ⟨_, rfl, _, _, _, _, _, rfl, .ty _, kV_ty (k := .inr sy), kit_ty (kb_key (.inr sy)), _, rfl, ?_⟩
                  exact iteF (fin (.inl 0) (if_neg hm))
            · obtain ⟨h9, k9⟩ := h9
              rw [List.length_map, List.take_length] at h9
              -- the powers
              intro K0 hK0
              have k10 : Kp [] H9 (upd H9 K0 (.dK [])) := Kp.new hK0
              have k710 := (k78.trans k9).trans k10
              have hV10 := k710.at_ _ _ hV7 (fun z => nomatch z)
              have hLa10 := (k9.trans k10).at_ _ _ hLa (fun z => nomatch z)
              have h10 := k10.at_ _ _ h9 (fun z => nomatch z)
              have hKK : upd H9 K0 (.dK []) K0 = some (.dK []) := upd_same
              have KH7 : H7 K0 = none := (k78.trans k9).same.free hK0
              have KV : K0 ≠ Vd := fun z => by
                have := (k78.trans k9).at_ _ _ hV7 (fun z => nomatch z)
                rw [← z, hK0] at this; cases this
              generalize upd H9 K0 (.dK []) = H10 at k710 hV10 hLa10 h10 hKK k10
              refine ⟨Vd, _, hV10, trivial, fun od => ?_⟩
              refine ⟨_, rfl, Vd, od, rfl, .inl ⟨pwKv pw1, upd_same, ?_⟩⟩
              have e00 : ((pw1.take 0).filter fun p => decide (p.1 ∈ us)) = [] := rfl
              refine for_it (walk_keys (kvs := pwKv pw1)) (fun i σ H' => (∃ o11, σ = [some (V.ref b), some (.ref R), some (.ref G), some (.ref W), some (.ref M), some (.ref N), some (.ref Vd), some (.ref Ua), o8, o9, some (.int kd), o11, some (.ref La), some (.ref K0), none]) ∧ H' K0 = some (.dK (pwKv ((pw1.take i).filter fun p => decide (p.1 ∈ us)))) ∧ Kp [K0] (upd H10 Vd (.frz od (.dK (pwKv pw1)))) H') ⟨⟨_, rfl⟩, by rw [upd_ne KV]; exact hKK, Kp.refl _⟩ (fun i σ H' _ h => h.2.2.at_ _ _ upd_same (by simpa using Ne.symm KV)) ?_ ?_
              · rintro i v σ Hx H11 hi ⟨⟨o11, rfl⟩, hK, kx⟩ ⟨rfl, kk, vv, hk, rfl⟩
                obtain ⟨p, hp, rfl, rfl, hv⟩ := pwKv_at pq7.1 hk
                have hfz := kx.at_ _ _ (upd_same (H := H10) (a := Vd)) (by simpa using Ne.symm KV)
                have LaV : La ≠ Vd := fun z => by rw [z, hV10] at hLa10; cases hLa10
                have LaK : La ≠ K0 := fun z => by rw [z, hKK] at hLa10; cases hLa10
                have hLa11 := kx.at_ La _ (by rw [upd_ne LaV]; exact hLa10) (by simpa using LaK)
                refine ⟨_, rfl, _, rfl, La, _, rfl, .inl (SqL.of hLa11), rfl, flat_strs us, _, rfl, ?_⟩
                rw [show inV (kV (.inr p.1)) (us.map V.str) = decide (p.1 ∈ us) from inV_strs p.1 us]
                by_cases hm : p.1 ∈ us
                · rw [decide_eq_true hm]
                  refine iteT ⟨_, rfl, _, rfl, Vd, _, rfl, .inl ⟨_, .inr p.1, .inr ⟨od, hfz⟩, rfl, hv.symm⟩, _, rfl, _, rfl, K0, _, rfl, .inl ⟨_, .inr p.1, hK, rfl, ?_, rfl⟩, ?_⟩
                  · show (pwKv _).length < sizeLine
                    unfold pwKv
                    rw [List.length_map]
                    have := List.length_filter_le (fun p : Str × Int => decide (p.1 ∈ us)) (pw1.take i)
                    rw [List.length_take] at this
                    omega
                  · refine ⟨⟨_, rfl⟩, ?_, kx.trans (Kp.set hK (fun _ z => by cases z) (by simp))⟩
                    rw [upd_same, pwKv_put, take_snoc hp, List.filter_append]
                    unfold putW
                    rw [if_neg]
                    · rw [List.filter_cons_of_pos (by simpa using hm)]; rfl
                    · intro z
                      obtain ⟨p', hp', e'⟩ := List.any_eq_true.mp z
                      have e' := of_decide_eq_true e'
                      have hp' := (List.mem_filter.mp hp').1
                      have nd := pq7.1
                      have : p.1 ∉ (pw1.map (·.1)).take i := notin_take nd (by rw [List.getElem?_map, hp]; rfl)
                      rw [← List.map_take] at this
                      exact this (List.mem_map.mpr ⟨p', hp', e'⟩)
                · rw [decide_eq_false hm]
                  refine iteF ⟨⟨_, rfl⟩, ?_, kx⟩
                  rw [hK, take_snoc hp, List.filter_append, List.filter_cons_of_neg (by simpa using hm), List.filter_nil, List.append_nil]
              · rintro σ H11 ⟨⟨o11, rfl⟩, hK, kx⟩
                rw [show (pwKv pw1).length = pw1.length from List.length_map .., List.take_length] at hK
                refine ⟨kx.at_ _ _ upd_same (by simpa using Ne.symm KV), ?_⟩
                have kU : Kp [K0] H10 (upd H11 Vd (.dK (pwKv pw1))) := Kp.unlockM hV10 kx
                have hK12 : upd H11 Vd (.dK (pwKv pw1)) K0 = some (.dK (pwKv (pw1.filter fun p => decide (p.1 ∈ us)))) := by rw [upd_ne KV]; exact hK
                have k712 : Kp [] H7 (upd H11 Vd (.dK (pwKv pw1))) := Kp.via k710 kU (fun x hx => .inr (by rw [List.mem_singleton.mp hx]; exact KH7))
                have hN12 := kU.at_ _ _ h10 (fun z => by
                  have z : N = K0 := by simpa using z
                  rw [z, hKK] at h10; cases h10)
                generalize upd H11 Vd (.dK (pwKv pw1)) = H12 at kU hK12 k712 hN12
                refine ⟨_, rfl, _, rfl, _, rfl, by show 3 ≤ sizeLine; decide, fun q hq => ?_⟩
                have kq := Kp.new (ms := []) (o := .tup [.ref M, .ref N, .ref K0]) hq
                have k7q := k712.trans kq
                have BGq := BG7.keep0 k7q
                have notb : ∀ {x : Addr} {o : HO}, upd H12 q (.tup [.ref M, .ref N, .ref K0]) x = some o → (∀ xs, o = .lst xs → ∀ (i z m n k : Int), xs ≠ [.ref c, .int i, .int z, .int m, .int n, .int k]) → x ≠ b := fun {x o} hx hn z => by
                  obtain ⟨i, zz, m, n, k', hb, _⟩ := BGq.bg
                  rw [z, hb] at hx
                  exact hn _ (Option.some.inj hx).symm i zz m n k' rfl
                refine k q M N K0 ps1 (g1.map (keepK us)) (pw1.filter fun p => decide (p.1 ∈ us)) _ BGq (k07.trans k7q.zero) upd_same ⟨⟨zs1, k7q.at_ _ _ hz7 (fun z => nomatch z), RX7.kp k7q.zero⟩, by simpa using Mb, kq.at_ _ _ hN12 (fun z => nomatch z), fun z => ?_, kq.at_ _ _ hK12 (fun z => nomatch z), fun z => ?_, ok7, ⟨by rw [List.length_map]; exact g7, fun k hk => ?_, fun s hs => ?_⟩, ⟨?_, fun p hp => ?_⟩⟩
                · refine notb (kq.at_ _ _ hN12 (fun z => nomatch z)) (fun xs e i z m n k' ex => ?_) (List.mem_singleton.mp z)
                  cases e
                  cases eg : g1.map (keepK us) with
                  | nil => rw [eg] at ex; cases ex
                  | cons y ys => rw [eg] at ex; cases y <;> cases ex
                · exact notb (kq.at_ _ _ hK12 (fun z => nomatch z)) (fun xs e => by cases e) (List.mem_singleton.mp z)
                · obtain ⟨k0, hk0, rfl⟩ := List.mem_map.mp hk
                  cases k0 with
                  | inl i => exact gs7 _ hk0
                  | inr s =>
                    by_cases hm : s ∈ us
                    · rw [show keepK us (.inr s) = .inr s from if_pos hm]; exact gs7 _ hk0
                    · rw [show keepK us (.inr s) = .inl 0 from if_neg hm]
                      exact ⟨by decide, by decide⟩
                · obtain ⟨k0, hk0, e⟩ := List.mem_map.mp hs
                  cases k0 with
                  | inl i => cases e
                  | inr t =>
                    by_cases hm : t ∈ us
                    · rw [show keepK us (.inr t) = .inr t from if_pos hm] at e
                      cases e
                      rw [← hus] at hm
                      obtain ⟨r, hr, hk⟩ := usL_mem.mp hm
                      exact foldR_in ps1 [] s r hr hk
                    · rw [show keepK us (.inr t) = .inl 0 from if_neg hm] at e; cases e
                · exact (List.filter_sublist.map _).nodup pq7.1
                · obtain ⟨h1, h2⟩ := List.mem_filter.mp hp
                  have hm : p.1 ∈ us := of_decide_eq_true h2
                  rw [← hus] at hm
                  obtain ⟨r, hr, hk⟩ := usL_mem.mp hm
                  exact ⟨foldR_in ps1 [] p.1 r hr hk, pq7.2 p h1⟩
end
end Fm

namespace Fm
open PySem PySem.Spec PyProof.Rows L2
/-! ### refused -/
def spRefd (C : Addr) : Sp := fun vs H Q _ => ∃ (x y : V), vs = [x, y] ∧ (ThOk H x ∨ ((∃ p T, x = .ref p ∧ PatAt C H p T) ∧ ThOk H y)) ∧ ∀ H', Kp [] H H' → Q (.bl true) H'
section
variable {P : Program} {w : World} {K : PySem.W.Frag} {mg : Str → Option Value} {base : Heap}
theorem ok_refd {C CE fG : Addr} {fdG : FuncData} (B : Bi mg) (D : Dfn K mg "_law_refused" s__law_refused ["_law_one", "_law_other"]) (FG : FnOk P w K mg base (L2.CX P w) 10 fG fdG ["one", "other"] (spPairing C CE)) (gG : mg "pairing" = some (.ref fG)) (kG : PySem.W.keepIn K (.ref fG) = true) (bG : Binds K fdG ["one", "other"] [])
    (gE : mg "BadPattern" = some (.ref CE)) (xE : XfC K CE) (nE : PySem.W.findIn K (.ref CE) "at" = some none) (mE : PySem.W.exmOne K (.ref CE) (.ref CE) = some true) : Has P w K mg base CX0 "_law_refused" ["_law_one", "_law_other"] 11 (spRefd C) := by
  refine D.has sc__law_refused (fun vs H Q E h => ?_) (fun f cdv A outer s H vs Q E hr h => ?_)
  · obtain ⟨x, y, rfl, _⟩ := h; rfl
  · obtain ⟨x, y, rfl, hbad, k⟩ := h
    refine ⟨_, (pss_cons (ps_try_as (i := 2) (Wout := fun _ _ _ _ => False) rfl rfl sc__law_refused.nd rfl rfl ⟨rfl, by decide, .inl gE⟩ takes0 (fun W pn xe tk _ => (pss_one (ps_expr (pe_callS FG hr rfl gG kG bG (fun σ => passAt tk σ) (pa_cons (pv 0) (pa_cons (pv 1) pa_nil))))))
  (fun a oe cls d pn hz hf => (pss_one (ps_ret (pe_and (pe_cmpR op_eq (pe_xf xE nE hz hf (pv 2)) (pe_un un_neg pe_int) (nomark _)) (pe_one (pe_not (pe_callB (r := rIsi K) call_isi (by rfl) B.isinstance (by decide +kernel) (pa_cons (pe_xf xE nE hz hf (pv 2)) (pa_cons (pe_bltn (v := .ty "bool") (by rfl) B.bool (by decide +kernel) rfl) pa_nil))))))))))
  (pss_one (ps_ret pe_bl))), ?_⟩
    refine ⟨_, rfl, _, rfl, x, y, rfl, .inr ⟨hbad, fun dd H1 k1 fdd e1 => ?_⟩⟩
    refine ⟨true, mE, fun _ a ha => ?_, fun z => nomatch z⟩
    have hx : Im H1 0 (.int (-1)) (.int (-1)) := .int (-1)
    refine ⟨_, rfl, rfl, rfl, dd, _, .int (-1), rfl, e1, rfl, 1, rfl, rfl, ?_⟩
    refine ⟨_, rfl, iteT ?_⟩
    refine ⟨_, rfl, rfl, rfl, dd, _, .int (-1), rfl, e1, rfl, _, _, _, _, _, rfl, .ty _, hx.ty, kit_ty (kb_bool _), _, rfl, ?_⟩
    exact k H1 k1
end
end Fm

namespace Fm
open PySem PySem.Spec PyProof.Rows L2
/-! ### raw rows in another order -/
theorem raw_perm {ms : List Addr} {H : Hp} {xs ys : List V} (h : xs.Perm ys) : ∀ {ps : List (Str × List Key)}, RawAll ms H xs ps → ∃ qs, ps.Perm qs ∧ RawAll ms H ys qs := by
  induction h with
  | nil => intro ps h; cases h; exact ⟨[], .refl _, .nil⟩
  | cons x _ ih =>
    intro ps h
    cases h with
    | cons a b c d =>
      obtain ⟨qs, p, r⟩ := ih d
      exact ⟨_, p.cons _, .cons a b c r⟩
  | swap x y l =>
    intro ps h
    cases h with
    | cons a b c d =>
      cases d with
      | cons a2 b2 c2 d2 => exact ⟨_, .swap _ _ _, .cons a2 b2 c2 (.cons a b c d2)⟩
  | trans _ _ i1 i2 =>
    intro ps h
    obtain ⟨qs, p, r⟩ := i1 h
    obtain ⟨rs, p2, r2⟩ := i2 r
    exact ⟨rs, p.trans p2, r2⟩
theorem raw_turn {ms : List Addr} {H : Hp} {R G W F : Addr} {ps : List (Str × List Key)} {g : List Key} {pw : List (Str × Int)} {zs found : List V} (h : RawAt ms H R G W ps g pw) (hR : H R = some (.lst zs)) (hF : H F = some (.lst found)) (pm : found.Perm zs) : ∃ qs, ps.Perm qs ∧ RawAt [] H F G W qs g pw := by
  obtain ⟨⟨zs', hR', RX⟩, _, hG, _, hW, _, okp, okg, okw⟩ := h
  rw [hR] at hR'
  cases hR'
  obtain ⟨qs, p, RY⟩ := raw_perm pm.symm RX
  have nm : ∀ s ∈ namesP ps, s ∈ namesP qs := fun s hs => by
    obtain ⟨r, hr, h⟩ := names_back hs
    exact foldR_in qs [] s r (p.mem_iff.mp hr) h
  exact ⟨qs, p, ⟨found, hF, RY.mono (ms' := []) (fun _ h => nomatch h)⟩, (fun z => nomatch z), hG, (fun z => nomatch z), hW, (fun z => nomatch z), ⟨by rw [← p.length_eq]; exact okp.1, fun r hr => okp.2 r (p.mem_iff.mpr hr)⟩, ⟨okg.1, okg.2.1, fun s hs => nm s (okg.2.2 s hs)⟩, okw.mono nm⟩
end Fm

namespace Fm
open PySem PySem.Spec PyProof.Rows L2
/-! ### the law -/
theorem pair_isSome (T U : Pat) : (pairP T U).isSome = sameQ T U := by
  rw [Bool.eq_iff_iff, sameQ_iff]
  constructor
  · intro h
    obtain ⟨l, hl⟩ := Option.isSome_iff_exists.mp h
    exact ⟨l, pair_find hl⟩
  · rintro ⟨ch, h⟩
    exact pair_ex h
theorem same_sym {T U : Pat} (hT : PwIn T.pws T.rows) (hU : PwIn U.pws U.rows) (sT : ∃ X, T.pws = srt X) (sU : ∃ X, U.pws = srt X) : sameQ U T = sameQ T U := by
  rw [Bool.eq_iff_iff, sameQ_iff, sameQ_iff]
  exact ⟨fun ⟨ch, h⟩ => ⟨_, prg_sym hU sU h⟩, fun ⟨ch, h⟩ => ⟨_, prg_sym hT sT h⟩⟩
theorem told_pr {T U : Pat} {l : List Nat} (h : pairP T U = some l) : T.rows.length = U.rows.length ∧ l.length = T.rows.length ∧ l.Nodup ∧ (∀ i ∈ l, i < U.rows.length) ∧ isPr T U l = true := by
  have p := pair_find h
  obtain ⟨a, b, c, d, _⟩ := id p
  exact ⟨a, b, c, d, (isPr_iff a b c d).mpr p⟩
theorem lf_of {H : Hp} {v : V} {T : Pat} (h : Im H 4 v (dPat T)) : ∃ a A G W xs ws, v = .ref a ∧ H a = some (.tup [.ref A, .ref G, .ref W]) ∧ ∀ (l : Addr) (H' : Hp), Kp [] H H' → H' l = some (.lst [.ref A, .ref G, .ref W]) → LfAt H' l T A G W xs ws := by
  obtain ⟨a, A, G, w3, xs, rfl, ha, hA, ix, hG, i3⟩ := due_parts h
  obtain ⟨W, ws, rfl, hW, iw⟩ := Im.tupP i3
  exact ⟨a, A, G, W, xs, ws, rfl, ha, fun l H' k hl => ⟨hl, k.tp _ _ hA, ImAll.kp k ix, k.tp _ _ hG, k.tp _ _ hW, ImAll.kp k iw⟩⟩
theorem pair_in {C CE p p' : Addr} {H : Hp} {T U : Pat} {Q : VK} {E : XK} (h : PatAt C H p T) (h' : PatAt C H p' U) (sT : PatS T) (sU : PatS U) (q : ∀ v H', Kp [] H H' → ToldAt H' v (pairP T U) → Q v H') : spPairing C CE [.ref p, .ref p'] H Q E :=
  ⟨_, _, rfl, .inl ⟨p, p', T, U, rfl, rfl, h, h', sT, sU, q⟩⟩
theorem and_not {c due : Bool} {σ : List (Option V)} {H : Hp} {Q : Bool → Hp → Prop} {u : TT} (h : c = true → due = true) (hu : ∀ Q : Bool → Hp → Prop, Q (!due) H → u σ H Q) (k : Q false H) : if c = true then u σ H Q else Q false H := by
  cases c with
  | false => exact k
  | true => exact hu Q (by rw [h rfl]; exact k)
section
variable {P : Program} {w : World} {K : PySem.W.Frag} {mg : Str → Option Value} {base : Heap}
theorem ok_law {f C CE fI fG : Addr} {fd fdI fdG : FuncData} (B : BiP mg) (F : Fun K "law" "law" s_law f fd) (U : PatCls K mg C) (MT : Mk K C fI) (GI : FnOk P w K mg base CX0 4 fI fdI ["self", "rows", "group", "powers"] (spPatI C)) (bI : Binds K fdI ["self", "rows", "group", "powers"] [])
    (FG : FnOk P w K mg base (L2.CX P w) 10 fG fdG ["one", "other"] (spPairing C CE)) (gG : mg "pairing" = some (.ref fG)) (kG : PySem.W.keepIn K (.ref fG) = true) (bG : Binds K fdG ["one", "other"] [])
    (G_bag : Has P w K mg base CX0 "_law_bag" ["_law_script"] 1 (spBag K)) (G_pick : Has P w K mg base CX0 "_law_pick" ["_law_bag_here", "_law_many"] 1 spPick) (G_tables : Has P w K mg base CX0 "_law_tables" ["_law_bag_here"] 3 spTables) (G_pattern : Has P w K mg base CX0 "_law_pattern" ["_law_bag_here", "_law_tables_here", "_law_most"] 3 spPattern)
    (G_due : Has P w K mg base CX0 "_law_due" ["_law_rows", "_law_group", "_law_powers"] 2 spDue) (G_spoilt : Has P w K mg base CX0 "_law_spoilt" ["_law_bag_here", "_law_rows", "_law_group", "_law_powers"] 3 spSpoilt) (G_turned : Has P w K mg base CX0 "_law_turned" ["_law_rows", "_law_group", "_law_powers", "_law_pool_here"] 2 spTurned) (G_shuffled : Has P w K mg base CX0 "_law_shuffled" ["_law_bag_here", "_law_things"] 2 spShuffled) (G_pool : Has P w K mg base CX0 "_law_pool" ["_law_bag_here"] 2 spPool)
    (G_same_names : Has P w K mg base CX0 "_law_same_names" ["_law_one", "_law_other"] 6 spSameN) (G_is_pairing : Has P w K mg base CX0 "_law_is_pairing" ["_law_one", "_law_other", "_law_thing"] 5 spIsPairing)
    (G_refused : Has P w K mg base CX0 "_law_refused" ["_law_one", "_law_other"] 11 (spRefd C)) : FnOk P w K mg base CX0 12 f fd ["_law_script"] (spLaw K) := by
  refine F.ok sc_law (fun vs H Q E h => ?_) (fun cdv A outer s H vs Q E hr h => ?_)
  · obtain ⟨a, ns, rfl, _⟩ := h; rfl
  · obtain ⟨a, ns0, rfl, hS, k⟩ := h
    have hu := hu_of hr
    have hr10 : Room 10 _ := hr.mono (by decide)
    refine ⟨_, (pss_cons (ps_set (i := 1) sc_law.nd rfl (by first | exact Or.inl rfl | exact Or.inr rfl) (pe_has G_bag (hr.mono (by omega)) (pa_cons (pv 0) pa_nil)))
  (pss_cons (ps_set (i := 2) sc_law.nd rfl (by first | exact Or.inl rfl | exact Or.inr rfl) (pe_has G_pick (hr.mono (by omega)) (pa_cons (pv 1) (pa_cons pe_int pa_nil))))
  (pss_cons (ps_asg (pe_has G_pattern (hr.mono (by omega)) (pa_cons (pv 1) (pa_cons (pe_has G_tables (hr.mono (by omega)) (pa_cons (pv 1) pa_nil)) (pa_cons pe_int pa_nil)))) (pg_tup rfl (pgs_cons (pg_name (i := 3) sc_law.nd rfl (by first | exact Or.inl rfl | exact Or.inr rfl)) (pgs_cons (pg_name (i := 4) sc_law.nd rfl (by first | exact Or.inl rfl | exact Or.inr rfl)) (pgs_cons (pg_name (i := 5) sc_law.nd rfl (by first | exact Or.inl rfl | exact Or.inr rfl)) pgs_nil)))))
  (pss_cons (ps_set (i := 6) sc_law.nd rfl (by first | exact Or.inl rfl | exact Or.inr rfl) (pe_tup (pa_cons (pv 3) (pa_cons (pv 4) (pa_cons (pv 5) pa_nil)))))
  (C8.pss_cut (ps_if (pt_cmpR op_gt (pv 2) pe_int (nomark _))
  (pss_one (ps_set (i := 6) sc_law.nd rfl (by first | exact Or.inl rfl | exact Or.inr rfl) (pe_has G_spoilt (hr.mono (by omega)) (pa_cons (pv 1) (pa_cons (pv 3) (pa_cons (pv 4) (pa_cons (pv 5) pa_nil)))))))
  pss_nil)
  (pss_cons (ps_set (i := 7) sc_law.nd rfl (by first | exact Or.inl rfl | exact Or.inr rfl) (pe_has G_turned (hr.mono (by omega)) (pa_cons (pe_has G_shuffled (hr.mono (by omega)) (pa_cons (pv 1) (pa_cons (pe_ix (r := rIxT K) ix_tup (pv 6) pe_int (fun _ _ => rfl)) pa_nil))) (pa_cons (pe_ix (r := rIxT K) ix_tup (pv 6) pe_int (fun _ _ => rfl)) (pa_cons (pe_ix (r := rIxT K) ix_tup (pv 6) pe_int (fun _ _ => rfl)) (pa_cons (pe_has G_pool (hr.mono (by omega)) (pa_cons (pv 1) pa_nil)) pa_nil))))))
  (pss_cons (ps_set (i := 8) sc_law.nd rfl (by first | exact Or.inl rfl | exact Or.inr rfl) (pe_make (E := E0) MT GI (hr.mono (by omega)) rfl U.mgC bI .nil pass0 (pa_cons (pv 3) (pa_cons (pv 4) (pa_cons (pv 5) pa_nil)))))
  (pss_cons (ps_set (i := 9) sc_law.nd rfl (by first | exact Or.inl rfl | exact Or.inr rfl) (pe_make (E := E0) MT GI (hr.mono (by omega)) rfl U.mgC bI .nil pass0 (pa_cons (pe_ix (r := rIxT K) ix_tup (pv 7) pe_int (fun _ _ => rfl)) (pa_cons (pe_ix (r := rIxT K) ix_tup (pv 7) pe_int (fun _ _ => rfl)) (pa_cons (pe_ix (r := rIxT K) ix_tup (pv 7) pe_int (fun _ _ => rfl)) pa_nil)))))
  (pss_cons (ps_set (i := 10) sc_law.nd rfl (by first | exact Or.inl rfl | exact Or.inr rfl) (pe_callTy call_list_of (by rfl) B.list (by decide +kernel) (pa_cons (pe_has G_due (hr.mono (by omega)) (pa_cons (pv 3) (pa_cons (pv 4) (pa_cons (pv 5) pa_nil)))) pa_nil)))
  (pss_cons (ps_set (i := 11) sc_law.nd rfl (by first | exact Or.inl rfl | exact Or.inr rfl) (pe_callTy call_list_of (by rfl) B.list (by decide +kernel) (pa_cons (pe_has G_due (hr.mono (by omega)) (pa_cons (pe_ix (r := rIxT K) ix_tup (pv 7) pe_int (fun _ _ => rfl)) (pa_cons (pe_ix (r := rIxT K) ix_tup (pv 7) pe_int (fun _ _ => rfl)) (pa_cons (pe_ix (r := rIxT K) ix_tup (pv 7) pe_int (fun _ _ => rfl)) pa_nil)))) pa_nil)))
  (pss_cons (ps_set (i := 12) sc_law.nd rfl (by first | exact Or.inl rfl | exact Or.inr rfl) (pe_has G_same_names (hr.mono (by omega)) (pa_cons (pv 10) (pa_cons (pv 11) pa_nil))))
  (pss_cons (ps_if (PW.pt (pw_and (pt_cmpR op_eq (pv 2) pe_int (nomark _)) (pw_and1 (pt_not (pt_val (pv 12))))))
  (pss_one (ps_ret pe_bl))
  pss_nil)
  (pss_cons (ps_set (i := 13) sc_law.nd rfl (by first | exact Or.inl rfl | exact Or.inr rfl) (pe_call (E := E0) FG hr10 rfl gG kG bG .nil passL (pa_cons (pv 8) (pa_cons (pv 9) pa_nil))))
  (pss_cons (ps_set (i := 14) sc_law.nd rfl (by first | exact Or.inl rfl | exact Or.inr rfl) (pe_call (E := E0) FG hr10 rfl gG kG bG .nil passL (pa_cons (pv 9) (pa_cons (pv 8) pa_nil))))
  (C8.pss_cut (ps_if (PW.pt (pw_or (pt_cmpR op_eq (pe_cmpR op_isN (pv 13) pe_non (nomark _)) (pv 12) (nomark _)) (pw_or1 (pt_cmpR op_eq (pe_cmpR op_isN (pv 14) pe_non (nomark _)) (pv 12) (nomark _)))))
  (pss_one (ps_ret pe_bl))
  pss_nil)
  (C8.pss_cut (ps_if (PW.pt (pw_or (PW.pt (pw_and (pt_val (pv 12)) (pw_and1 (pt_not (pt_val (pe_has G_is_pairing (hr.mono (by omega)) (pa_cons (pv 10) (pa_cons (pv 11) (pa_cons (pv 13) pa_nil))))))))) (pw_or1 (PW.pt (pw_and (pt_val (pv 12)) (pw_and1 (pt_not (pt_val (pe_has G_is_pairing (hr.mono (by omega)) (pa_cons (pv 11) (pa_cons (pv 10) (pa_cons (pv 14) pa_nil))))))))))))
  (pss_one (ps_ret pe_bl))
  pss_nil)
  (pss_cons (ps_if (pt_not (pt_val (pe_has G_is_pairing (hr.mono (by omega)) (pa_cons (pv 10) (pa_cons (pv 10) (pa_cons (pe_call (E := E0) FG hr10 rfl gG kG bG .nil passL (pa_cons (pv 8) (pa_cons (pv 8) pa_nil))) pa_nil))))))
  (pss_one (ps_ret pe_bl))
  pss_nil)
  (pss_cons (ps_set (i := 15) sc_law.nd rfl (by first | exact Or.inl rfl | exact Or.inr rfl) (pe_ix ix_list (pe_lst (pa_cons pe_non (pa_cons pe_int (pa_cons pe_str (pa_cons (pe_tup pa_nil) (pa_cons (pe_lst pa_nil) (pa_cons pe_dnewK (pa_cons pe_bl (pa_cons (pv 3) pa_nil))))))))) (pe_has G_pick (hr.mono (by omega)) (pa_cons (pv 1) (pa_cons pe_int pa_nil))) (fun _ _ => rfl)))
  (pss_one (ps_ret (pe_and (pe_has G_refused (hr.mono (by omega)) (pa_cons (pv 15) (pa_cons (pv 9) pa_nil))) (pe_and (pe_has G_refused (hr.mono (by omega)) (pa_cons (pv 8) (pa_cons (pv 15) pa_nil))) (pe_one (pe_has G_refused (hr.mono (by omega)) (pa_cons (pv 15) (pa_cons (pv 15) pa_nil)))))))))))))))))))))))))), ?_⟩
    refine ⟨_, rfl, a, ns0, rfl, hS, fun b c H1 k1 hb hc BG1 => ?_⟩
    refine ⟨_, rfl, b, c, 4, rfl, BG1, by decide, by decide, fun sp H2 sp0 sp4 BG2 k2 => ?_⟩
    refine ⟨_, rfl, _, rfl, b, c, rfl, BG2, fun t xs tbs H3 BG3 k3 ht et it g => ?_⟩
    obtain ⟨tb, tc⟩ := BG2.new ht
    refine ⟨b, c, t, xs, tbs, 6, rfl, BG3, et, tb, it, g, by decide, fun q R G W ps gg pw H4 hq RA tx l6 BG4 k4 fR fG fW => ?_⟩
    refine ⟨q, _, rfl, SqT.of hq, rfl, _, _, rfl, _, _, rfl, _, _, rfl, rfl, ?_⟩
    obtain ⟨⟨zs, hR, RX⟩, Rb, hG, Gb, hW, Wb, okp, okg, okw⟩ := id RA
    -- the pattern that is turned
    refine ⟨_, rfl, _, rfl, _, rfl, by show 3 ≤ sizeLine; decide, fun mm nm => ?_⟩
    have km : Kp [] H4 (upd H4 mm (.tup [.ref R, .ref G, .ref W])) := Kp.new nm
    have hmm : upd H4 mm (.tup [.ref R, .ref G, .ref W]) mm = some (.tup [.ref R, .ref G, .ref W]) := upd_same
    have BG5 := BG4.keep0 km
    have RA5 := RA.kp km.zero
    generalize upd H4 mm (.tup [.ref R, .ref G, .ref W]) = H5 at km hmm BG5 RA5
    refine ⟨fun σ H' => (∃ (m2 R2 G2 W2 : Addr) (ps2 : List (Str × List Key)) (g2 : List Key) (pw2 : List (Str × Int)), σ = [some (.ref a), some (.ref b), some (.int sp), some (.ref R), some (.ref G), some (.ref W), some (.ref m2), none, none, none, none, none, none, none, none, none] ∧ H' m2 = some (.tup [.ref R2, .ref G2, .ref W2]) ∧ RawAt [b] H' R2 G2 W2 ps2 g2 pw2 ∧ (sp = 0 → ps2 = ps ∧ g2 = gg ∧ pw2 = pw)) ∧ Bag H' b c ∧ Kp [b] H5 H', ?_, ?_⟩
    · refine ⟨_, rfl, _, _, rfl, rfl, _, rfl, ?_⟩
      by_cases z : (0 : Int) < sp
      · refine iteTs (decide_eq_true z) ?_
        refine ⟨_, rfl, _, rfl, _, rfl, _, rfl, b, c, R, G, W, ps, gg, pw, rfl, BG5, RA5, fun q' R' G' W' ps' g' pw' H6 BG6 k6 hq' RA' => ?_⟩
        exact ⟨⟨q', R', G', W', ps', g', pw', rfl, hq', RA', fun e => absurd z (by rw [e]; decide)⟩, BG6, k6⟩
      · refine iteFs (decide_eq_false z) ?_
        exact ⟨⟨mm, R, G, W, ps, gg, pw, rfl, hmm, RA5, fun _ => ⟨rfl, rfl, rfl⟩⟩, BG5, Kp.refl _⟩
    rintro σ H6 ⟨⟨m2, R2, G2, W2, ps2, g2, pw2, rfl, hm2, RA6, same⟩, BG6, k56⟩
    obtain ⟨⟨zs2, hR2, RX2⟩, R2b, hG2, G2b, hW2, W2b, okp2, okg2, okw2⟩ := id RA6
    have lz2 : zs2.length ≤ 6 := by rw [RX2.len]; exact okp2.1
    have R2b' : R2 ≠ b := by simpa using R2b
    refine ⟨_, rfl, _, rfl, m2, _, 0, .ref R2, rfl, rfl, SqT.of hm2, rfl, b, c, R2, zs2, rfl, BG6, hR2, R2b', by omega, fun Fs found H7 BG7 k7 fFs hFs pm => ?_⟩
    have Fsb : Fs ≠ b := fun z => by
      obtain ⟨o, ho⟩ := BG6.someB
      rw [← z, fFs] at ho; cases ho
    have hm27 := k7.tp _ _ hm2
    refine ⟨_, rfl, m2, _, 1, .ref G2, rfl, rfl, SqT.of hm27, rfl, _, rfl, m2, _, 2, .ref W2, rfl, rfl, SqT.of hm27, rfl, _, rfl, b, c, rfl, BG7, fun Lp ul H8 hpl BG8 k8 fLp hLp => ?_⟩
    have k68 := k7.trans k8
    obtain ⟨qs, pmq, RAq⟩ := raw_turn (RA6.kp k68) (k68.at_ _ _ hR2 R2b) (k8.at_ _ _ hFs (by simpa using Fsb)) pm
    refine ⟨Fs, G2, W2, Lp, qs, g2, pw2, ul, rfl, RAq, hLp, hpl, fun q2 R3 G3 W3 H9 k9 hq2 RA9 => ?_⟩
    obtain ⟨_, _, _, _, _, _, okpq, okgq, okwq⟩ := id RAq
    have BG9 := BG8.keep0 k9
    have k59 : Kp [b] H5 H9 := k56.trans (k68.trans k9.zero)
    have RA59 := RA5.kp k59
    -- one
    refine ⟨_, rfl, _, rfl, _, rfl, fun p dx np ndx ne => ?_⟩
    refine pat_mk RA59 np ndx ne fun H10 k10 PA => ?_
    -- the other
    have hq10 := k10.tp _ _ hq2
    have RA10 := RA9.kp k10
    refine ⟨_, rfl, q2, _, 0, .ref R3, rfl, rfl, SqT.of hq10, rfl, _, rfl, q2, _, 1, .ref G3, rfl, rfl, SqT.of hq10, rfl, _, rfl, q2, _, 2, .ref W3, rfl, rfl, SqT.of hq10, rfl, ?_⟩
    refine fun p' dx' np' ndx' ne' => ?_
    refine pat_mk RA10 np' ndx' ne' fun H11 k11 PA' => ?_
    have eCan := canP_tr (polF_inj hpl) okpq okgq.2.2 okwq
    rw [eCan] at PA'
    have hq11 := k11.tp _ _ hq10
    have RA11 := RA10.kp k11
    have k911 := k10.trans k11
    -- what is due
    refine ⟨_, rfl, _, rfl, _, rfl, R, G, W, ps, gg, pw, rfl, (RA59.kp k911.zero).mono (fun _ h => nomatch h), fun lv H12 k12 iv => ?_⟩
    obtain ⟨la, lA, lG, lW, lxs, lws, rfl, hla, mkL⟩ := lf_of iv
    refine ⟨la, _, rfl, .inr (SqT.of hla), fun ll hll => ?_⟩
    have kl : Kp [] H12 (upd H12 ll (.lst [.ref lA, .ref lG, .ref lW])) := Kp.new hll
    have LF := mkL ll _ kl upd_same
    have k1113 := k12.trans kl
    generalize upd H12 ll (.lst [.ref lA, .ref lG, .ref lW]) = H13 at kl LF k1113
    have hq13 := k1113.tp _ _ hq11
    refine ⟨_, rfl, q2, _, 0, .ref R3, rfl, rfl, SqT.of hq13, rfl, _, rfl, q2, _, 1, .ref G3, rfl, rfl, SqT.of hq13, rfl, _, rfl, q2, _, 2, .ref W3, rfl, rfl, SqT.of hq13, rfl, ?_⟩
    refine ⟨R3, G3, W3, _, _, _, rfl, RA11.kp k1113, fun rv H14 k14 iv' => ?_⟩
    rw [eCan] at iv'
    obtain ⟨ra, rA, rG, rW, rxs, rws, rfl, hra, mkR⟩ := lf_of iv'
    refine ⟨ra, _, rfl, .inr (SqT.of hra), fun lr hlr => ?_⟩
    have kr : Kp [] H14 (upd H14 lr (.lst [.ref rA, .ref rG, .ref rW])) := Kp.new hlr
    have RF := mkR lr _ kr upd_same
    have k1315 := k14.trans kr
    generalize upd H14 lr (.lst [.ref rA, .ref rG, .ref rW]) = H15 at kr RF k1315
    have LF15 := LF.kp k1315 (fun z => nomatch z)
    have pgT : PatG (canP ps gg pw) := patG_can okp okg.1 okg.2.2 okw
    have pgU : PatG (canP qs g2 pw2) := patG_can okpq okgq.1 okgq.2.2 okwq
    have sT : PatS (canP ps gg pw) := ⟨pgT, canP_ok okp okg.2.2 okw⟩
    have sU : PatS (canP qs g2 pw2) := ⟨pgU, canP_ok okpq okgq.2.2 okwq⟩
    have xT : ∃ X, (canP ps gg pw).pws = srt X := ⟨_, rfl⟩
    have xU : ∃ X, (canP qs g2 pw2).pws = srt X := ⟨_, rfl⟩
    have ref : ∀ {qs : List (Str × List Key)}, ps.Perm qs → sameQ (canP ps gg pw) (canP qs gg pw) = true := fun {qs} h => by
      obtain ⟨ch, h⟩ := prg_perm h okg.2.2 (fun p hp => (okw.2 p hp).1)
      exact (sameQ_iff _ _).mpr ⟨ch, h⟩
    have due0 : sp = 0 → sameQ (canP ps gg pw) (canP qs g2 pw2) = true := fun z => by
      obtain ⟨e1, e2, e3⟩ := same z
      rw [e1] at pmq
      rw [e2, e3]
      exact ref pmq
    have selfT := ref (List.Perm.refl ps)
    have symQ : sameQ (canP qs g2 pw2) (canP ps gg pw) = sameQ (canP ps gg pw) (canP qs g2 pw2) := same_sym sT.pwin sU.pwin xT xU
    have k1115 := k1113.trans k1315
    have PT : PatAt C H15 p (canP ps gg pw) := PA.kp (k11.trans k1115) (fun z => nomatch z)
    have PU : PatAt C H15 p' (canP qs g2 pw2) := PA'.kp k1115 (fun z => nomatch z)
    have BG15 := BG9.keep0 (k911.trans k1115)
    have RA15 := RA59.kp (k911.trans k1115).zero
    have pb : p ∉ [b] := fun z => by
      obtain ⟨o, ho⟩ := BG9.someB
      rw [← List.mem_singleton.mp z, np] at ho; cases ho
    have pb' : p' ∉ [b] := fun z => by
      obtain ⟨o, ho⟩ := (BG9.keep0 k10).someB
      rw [← List.mem_singleton.mp z, np'] at ho; cases ho
    generalize canP ps gg pw = T at *
    generalize canP qs g2 pw2 = U at *
    refine ⟨_, rfl, _, rfl, ll, lr, T, U, lA, lG, lW, rA, rG, rW, lxs, lws, rxs, rws, rfl, LF15, RF, sT, sU, fun H16 k16 => ?_⟩
    generalize eD : sameQ T U = due at *
    refine ⟨_, rfl, rfl, _, rfl, ?_⟩
    have next : (sp = 0 → due = true) := due0
    refine and_not (u := tNot (tB (tVar 12))) (c := decide (V.int sp = V.int 0)) (due := due) (fun h1 => next (V.int.inj (of_decide_eq_true h1))) (fun Q hq => ⟨_, rfl, _, rfl, hq⟩) (iteF ?_)
    have PT16 := PT.kp k16 (fun z => nomatch z)
    have PU16 := PU.kp k16 (fun z => nomatch z)
    refine ⟨_, rfl, _, rfl, ?_⟩
    dsimp only [tNil]
    refine pair_in PT16 PU16 sT sU fun v H17 k17 tv => ?_
    refine ⟨_, rfl, _, rfl, ?_⟩
    dsimp only [tNil]
    refine pair_in (PU16.kp k17 (fun z => nomatch z)) (PT16.kp k17 (fun z => nomatch z)) sU sT fun v2 H18 k18 tv2 => ?_
    have tv := tv.kp k18
    have i1 : (pairP T U).isSome = due := (pair_isSome T U).trans eD
    have i2 : (pairP U T).isSome = due := (pair_isSome U T).trans symQ
    have k1518 := k16.trans (k17.trans k18)
    refine ⟨fun σ H' => σ = [some (.ref a), some (.ref b), some (.int sp), some (.ref R), some (.ref G), some (.ref W), some (.ref m2), some (.ref q2), some (.ref p), some (.ref p'), some (.ref ll), some (.ref lr), some (.bl due), some v, some v2, none] ∧ H' = H18, ?_, ?_⟩
    · have n1 : decide (v = V.non) = !due := by
        rcases tv with ⟨e, rfl⟩ | ⟨_, _, e, rfl, _⟩
        · rw [← i1, e]; rfl
        · rw [← i1, e]; rfl
      have n2 : decide (v2 = V.non) = !due := by
        rcases tv2 with ⟨e, rfl⟩ | ⟨_, _, e, rfl, _⟩
        · rw [← i2, e]; rfl
        · rw [← i2, e]; rfl
      refine ⟨_, rfl, rfl, ?_⟩
      rw [n1]
      refine ⟨_, rfl, rfl, _, rfl, ?_⟩
      refine iteFs (by cases due <;> rfl) ?_
      refine ⟨_, rfl, rfl, ?_⟩
      rw [n2]
      refine ⟨_, rfl, rfl, _, rfl, ?_⟩
      refine iteFs (by cases due <;> rfl) ?_
      exact ⟨rfl, rfl⟩
    rintro σ H18' ⟨rfl, rfl⟩
    refine ⟨fun σ H' => σ = [some (.ref a), some (.ref b), some (.int sp), some (.ref R), some (.ref G), some (.ref W), some (.ref m2), some (.ref q2), some (.ref p), some (.ref p'), some (.ref ll), some (.ref lr), some (.bl due), some v, some v2, none] ∧ Kp [] H18' H', ?_, ?_⟩
    · cases due with
      | false => exact ⟨_, rfl, _, rfl, iteF ⟨_, rfl, _, rfl, iteF ⟨rfl, Kp.refl _⟩⟩⟩
      | true =>
        rcases tv with ⟨e, rfl⟩ | ⟨pt, l, e, rfl, hpt⟩
        · rw [e] at i1; cases i1
        rcases tv2 with ⟨e2, rfl⟩ | ⟨pt2, l2, e2, rfl, hpt2⟩
        · rw [e2] at i2; cases i2
        obtain ⟨t1, t2, t3, t4, t5⟩ := told_pr e
        obtain ⟨u1, u2, u3, u4, u5⟩ := told_pr e2
        have LF18 := LF15.kp k1518 (fun z => nomatch z)
        have RF18 := RF.kp k1518 (fun z => nomatch z)
        refine ⟨_, rfl, _, rfl, iteT ?_⟩
        refine ⟨_, rfl, _, rfl, _, rfl, ?_⟩
        refine ⟨ll, lr, pt, T, U, lA, lG, lW, rA, rG, rW, lxs, lws, rxs, rws, l, rfl, LF18, RF18, hpt, sT, sU, t1, t2, t3, t4, fun H19 k19 => ?_⟩
        rw [t5]
        refine ⟨_, rfl, iteF ?_⟩
        refine ⟨_, rfl, _, rfl, iteT ?_⟩
        refine ⟨_, rfl, _, rfl, _, rfl, ?_⟩
        refine ⟨lr, ll, pt2, U, T, rA, rG, rW, lA, lG, lW, rxs, rws, lxs, lws, l2, rfl, RF18.kp k19 (fun z => nomatch z), LF18.kp k19 (fun z => nomatch z), hpt2.kp k19, sU, sT, u1, u2, u3, u4, fun H20 k20 => ?_⟩
        rw [u5]
        exact ⟨_, rfl, iteF ⟨rfl, k19.trans k20⟩⟩
    clear tv tv2
    rintro σ H20 ⟨rfl, k1820⟩
    have k1520 := k1518.trans k1820
    have PT20 := PT.kp k1520 (fun z => nomatch z)
    have LF20 := LF15.kp k1520 (fun z => nomatch z)
    refine ⟨_, rfl, _, rfl, _, rfl, _, rfl, ?_⟩
    dsimp only [tNil]
    refine pair_in PT20 PT20 sT sT fun v3 H21 k21 tv3 => ?_
    have i3 : (pairP T T).isSome = true := (pair_isSome T T).trans selfT
    rcases tv3 with ⟨e, _⟩ | ⟨pt3, l3, e3, rfl, hpt3⟩
    · rw [e] at i3; cases i3
    obtain ⟨t1, t2, t3, t4, t5⟩ := told_pr e3
    have LF21 := LF20.kp k21 (fun z => nomatch z)
    refine ⟨ll, ll, pt3, T, T, lA, lG, lW, lA, lG, lW, lxs, lws, lxs, lws, l3, rfl, LF21, LF21, hpt3, sT, sT, t1, t2, t3, t4, fun H22 k22 => ?_⟩
    rw [t5]
    refine ⟨_, rfl, iteF ?_⟩
    have k1522 := k1520.trans (k21.trans k22)
    have BG22 := BG15.keep0 k1522
    -- what is no pattern
    refine ⟨by show 0 ≤ sizeLine; decide, fun t1 ht1 => ⟨by show 0 ≤ sizeLine; decide, fun t2 ht2 => ?_⟩⟩
    intro t3 ht3
    refine ⟨_, rfl, by show 8 ≤ sizeLine; decide, fun L hL => ?_⟩
    have kk : Kp [] H22 (upd (upd (upd (upd H22 t1 (.tup [])) t2 (.lst [])) t3 (.dK [])) L (.lst [.non, .int 3, .str "a", .ref t1, .ref t2, .ref t3, .bl true, .ref R])) := (((Kp.new ht1).snoc ht2).snoc ht3).snoc hL
    have hL' : upd (upd (upd (upd H22 t1 (.tup [])) t2 (.lst [])) t3 (.dK [])) L (.lst [.non, .int 3, .str "a", .ref t1, .ref t2, .ref t3, .bl true, .ref R]) L = some (.lst [.non, .int 3, .str "a", .ref t1, .ref t2, .ref t3, .bl true, .ref R]) := upd_same
    have e1 : upd (upd (upd (upd H22 t1 (.tup [])) t2 (.lst [])) t3 (.dK [])) L (.lst [.non, .int 3, .str "a", .ref t1, .ref t2, .ref t3, .bl true, .ref R]) t1 = some (.tup []) := (((Kp.new (ms := []) ht2).snoc ht3).snoc hL).tp _ _ upd_same
    have e2 : upd (upd (upd (upd H22 t1 (.tup [])) t2 (.lst [])) t3 (.dK [])) L (.lst [.non, .int 3, .str "a", .ref t1, .ref t2, .ref t3, .bl true, .ref R]) t2 = some (.lst []) := ((Kp.new (ms := []) ht3).snoc hL).at_ _ _ upd_same (fun z => nomatch z)
    have e3 : upd (upd (upd (upd H22 t1 (.tup [])) t2 (.lst [])) t3 (.dK [])) L (.lst [.non, .int 3, .str "a", .ref t1, .ref t2, .ref t3, .bl true, .ref R]) t3 = some (.dK []) := (Kp.new (ms := []) hL).at_ _ _ upd_same (fun z => nomatch z)
    generalize upd (upd (upd (upd H22 t1 (.tup [])) t2 (.lst [])) t3 (.dK [])) L (.lst [.non, .int 3, .str "a", .ref t1, .ref t2, .ref t3, .bl true, .ref R]) = H23 at kk hL' e1 e2 e3
    have nb22 : ∀ {x : Addr} {H' : Hp}, Bag H' b c → H' x = none → x ∉ [b] := fun {x H'} B h z => by
      obtain ⟨o, ho⟩ := B.someB
      rw [← List.mem_singleton.mp z, h] at ho; cases ho
    have Lb := nb22 (x := L) (BG22.keep0 (((Kp.new ht1).snoc ht2).snoc ht3)) hL
    have BG23 := BG22.keep0 kk
    refine ⟨_, rfl, b, c, 8, rfl, BG23, by decide, by decide, fun r2 H24 r20 r21 BG24 k24 => ?_⟩
    obtain ⟨th, hth⟩ : ∃ th, ([.non, .int 3, .str "a", .ref t1, .ref t2, .ref t3, .bl true, .ref R] : List V)[r2.toNat]? = some th := ⟨_, List.getElem?_eq_getElem (by show r2.toNat < 8; omega)⟩
    refine ⟨L, _, r2, th, rfl, rfl, SqL.of (k24.at_ _ _ hL' Lb), atI_of r20 hth, ?_⟩
    have k1524 : Kp [b] H15 H24 := (k1522.trans kk).zero.trans k24
    have PT24 := PT.kp k1524 pb
    have PU24 := PU.kp k1524 pb'
    have t2b := nb22 (BG22.keep0 (Kp.new ht1)) ht2
    have t3b := nb22 (BG22.keep0 ((Kp.new ht1).snoc ht2)) ht3
    have T24 : ThOk H24 th := by
      have hv := List.mem_of_getElem? hth
      simp only [List.mem_cons, List.not_mem_nil, or_false] at hv
      rcases hv with rfl | rfl | rfl | rfl | rfl | rfl | rfl | rfl
      · exact ⟨fun _ => True, false, 0, _, .non⟩
      · exact ⟨fun _ => True, false, 0, _, .int 3⟩
      · exact ⟨fun _ => True, false, 0, _, .str _ (by decide +kernel)⟩
      · exact ⟨fun _ => True, false, 1, _, .tup (k24.tp _ _ e1) ⟨by decide, trivial⟩ .nil⟩
      · exact ⟨fun _ => True, false, 1, _, .lst (.inl (k24.at_ _ _ e2 t2b)) ⟨by decide, trivial⟩ .nil⟩
      · exact ⟨fun _ => True, false, 1, _, .dic (kvs := []) (show Rd H24 t3 _ from .inl (k24.at_ _ _ e3 t3b)) ⟨⟨by decide, List.nodup_nil⟩, trivial⟩ .nil⟩
      · exact ⟨fun _ => True, false, 0, _, .bl true⟩
      · obtain ⟨d, es, h1, _⟩ := raw_dt (RA15.kp k1524)
        exact ⟨_, _, _, d, h1⟩
    refine ⟨_, rfl, _, rfl, _, _, rfl, .inl T24, fun H25 k25 => ⟨_, rfl, iteT ?_⟩⟩
    have PT25 := PT24.kp k25 (fun z => nomatch z)
    refine ⟨_, rfl, _, rfl, _, _, rfl, .inr ⟨⟨p, _, rfl, PT25⟩, T24.kp k25⟩, fun H26 k26 => ⟨_, rfl, iteT ?_⟩⟩
    have T26 := T24.kp (k25.trans k26)
    exact ⟨_, rfl, _, rfl, _, _, rfl, .inl T26, fun H27 k27 => k H27⟩
end
end Fm

namespace Fm
open PySem PySem.Spec PyProof.Rows L2
theorem ok_BadPattern_init {P : Program} {w : World} {K : PySem.W.Frag} {mg : Str → Option Value} {base : Heap} {f C : Addr} {fd : FuncData} (F : Fun K "__init__" "BadPattern.__init__" s_BadPattern_init f fd) (ox : OexC K C) (no : PySem.W.findIn K (.ref C) "at" = some none) : FnOk P w K mg base CX0 1 f fd ["self", "at"] (spErr C "at") := by
  refine F.ok sc_BadPattern_init (fun vs H Q E h => ?_) (fun cdv A outer s H vs Q E hr h => ⟨_, pss_one (ps_ost (pv 0) (pv 1)), ?_⟩)
  · obtain ⟨a, y, rfl, _⟩ := h; rfl
  · obtain ⟨a, y, rfl, ha, k⟩ := h
    exact ⟨_, rfl, _, rfl, a, C, rfl, ox, no, .inl ⟨ha, fun dx h1 h2 => k dx h1 h2⟩⟩
theorem all_mk {l : PySem.W.OpenLaw} {w : World} {K : PySem.W.Frag} {h : Heap} {mg : Str → Option Value} {fa : Addr} (X : K.In h) (G : h.Ns mainGlobals mg) (hfa : mg "law" = some (.ref fa))
    {tk_LETTERS_tables : Tok}
    {tk_LETTERS_patterns : Tok}
    {tk_MOST_VALUE : Tok}
    {tk_MOST_ROWS : Tok}
    {f_is_row : Addr} {od_is_row an_is_row : Option Addr} {sl_is_row : Array (Option Value)} {oc_is_row kV_is_row dc_is_row pm_is_row cd_is_row ct_is_row : Value}
    {f_is_integer : Addr} {od_is_integer an_is_integer : Option Addr} {sl_is_integer : Array (Option Value)} {oc_is_integer kV_is_integer dc_is_integer pm_is_integer cd_is_integer ct_is_integer : Value}
    {f_is_value : Addr} {od_is_value an_is_value : Option Addr} {sl_is_value : Array (Option Value)} {oc_is_value kV_is_value dc_is_value pm_is_value cd_is_value ct_is_value : Value}
    {f_is_name : Addr} {od_is_name an_is_name : Option Addr} {sl_is_name : Array (Option Value)} {oc_is_name kV_is_name dc_is_name pm_is_name cd_is_name ct_is_name : Value}
    {f_checked_rows : Addr} {od_checked_rows an_checked_rows : Option Addr} {sl_checked_rows : Array (Option Value)} {oc_checked_rows kV_checked_rows dc_checked_rows pm_checked_rows cd_checked_rows ct_checked_rows : Value}
    {f_names_in_order : Addr} {od_names_in_order an_names_in_order : Option Addr} {sl_names_in_order : Array (Option Value)} {oc_names_in_order kV_names_in_order dc_names_in_order pm_names_in_order cd_names_in_order ct_names_in_order : Value}
    {f_renamed : Addr} {od_renamed an_renamed : Option Addr} {sl_renamed : Array (Option Value)} {oc_renamed kV_renamed dc_renamed pm_renamed cd_renamed ct_renamed : Value}
    {f_renamed_rows : Addr} {od_renamed_rows an_renamed_rows : Option Addr} {sl_renamed_rows : Array (Option Value)} {oc_renamed_rows kV_renamed_rows dc_renamed_rows pm_renamed_rows cd_renamed_rows ct_renamed_rows : Value}
    {f_is_group : Addr} {od_is_group an_is_group : Option Addr} {sl_is_group : Array (Option Value)} {oc_is_group kV_is_group dc_is_group pm_is_group cd_is_group ct_is_group : Value}
    {f_is_powers : Addr} {od_is_powers an_is_powers : Option Addr} {sl_is_powers : Array (Option Value)} {oc_is_powers kV_is_powers dc_is_powers pm_is_powers cd_is_powers ct_is_powers : Value}
    {f_law_bag : Addr} {od_law_bag an_law_bag : Option Addr} {sl_law_bag : Array (Option Value)} {oc_law_bag kV_law_bag dc_law_bag pm_law_bag cd_law_bag ct_law_bag : Value}
    {f_law_pick : Addr} {od_law_pick an_law_pick : Option Addr} {sl_law_pick : Array (Option Value)} {oc_law_pick kV_law_pick dc_law_pick pm_law_pick cd_law_pick ct_law_pick : Value}
    {f_law_name : Addr} {od_law_name an_law_name : Option Addr} {sl_law_name : Array (Option Value)} {oc_law_name kV_law_name dc_law_name pm_law_name cd_law_name ct_law_name : Value}
    {f_law_value : Addr} {od_law_value an_law_value : Option Addr} {sl_law_value : Array (Option Value)} {oc_law_value kV_law_value dc_law_value pm_law_value cd_law_value ct_law_value : Value}
    {f_law_tables : Addr} {od_law_tables an_law_tables : Option Addr} {sl_law_tables : Array (Option Value)} {oc_law_tables kV_law_tables dc_law_tables pm_law_tables cd_law_tables ct_law_tables : Value}
    {f_law_pool : Addr} {od_law_pool an_law_pool : Option Addr} {sl_law_pool : Array (Option Value)} {oc_law_pool kV_law_pool dc_law_pool pm_law_pool cd_law_pool ct_law_pool : Value}
    {f_law_pattern : Addr} {od_law_pattern an_law_pattern : Option Addr} {sl_law_pattern : Array (Option Value)} {oc_law_pattern kV_law_pattern dc_law_pattern pm_law_pattern cd_law_pattern ct_law_pattern : Value}
    {f_law_due : Addr} {od_law_due an_law_due : Option Addr} {sl_law_due : Array (Option Value)} {oc_law_due kV_law_due dc_law_due pm_law_due cd_law_due ct_law_due : Value}
    {f_law_turned : Addr} {od_law_turned an_law_turned : Option Addr} {sl_law_turned : Array (Option Value)} {oc_law_turned kV_law_turned dc_law_turned pm_law_turned cd_law_turned ct_law_turned : Value}
    {f_bound : Addr} {od_bound an_bound : Option Addr} {sl_bound : Array (Option Value)} {oc_bound kV_bound dc_bound pm_bound cd_bound ct_bound : Value}
    {f_paired : Addr} {od_paired an_paired : Option Addr} {sl_paired : Array (Option Value)} {oc_paired kV_paired dc_paired pm_paired cd_paired ct_paired : Value}
    {f_pairing : Addr} {od_pairing an_pairing : Option Addr} {sl_pairing : Array (Option Value)} {oc_pairing kV_pairing dc_pairing pm_pairing cd_pairing ct_pairing : Value}
    {f_law_integer : Addr} {od_law_integer an_law_integer : Option Addr} {sl_law_integer : Array (Option Value)} {oc_law_integer kV_law_integer dc_law_integer pm_law_integer cd_law_integer ct_law_integer : Value}
    {f_law_integers : Addr} {od_law_integers an_law_integers : Option Addr} {sl_law_integers : Array (Option Value)} {oc_law_integers kV_law_integers dc_law_integers pm_law_integers cd_law_integers ct_law_integers : Value}
    {f_law_shuffled : Addr} {od_law_shuffled an_law_shuffled : Option Addr} {sl_law_shuffled : Array (Option Value)} {oc_law_shuffled kV_law_shuffled dc_law_shuffled pm_law_shuffled cd_law_shuffled ct_law_shuffled : Value}
    {f_law_sent : Addr} {od_law_sent an_law_sent : Option Addr} {sl_law_sent : Array (Option Value)} {oc_law_sent kV_law_sent dc_law_sent pm_law_sent cd_law_sent ct_law_sent : Value}
    {f_law_map_over : Addr} {od_law_map_over an_law_map_over : Option Addr} {sl_law_map_over : Array (Option Value)} {oc_law_map_over kV_law_map_over dc_law_map_over pm_law_map_over cd_law_map_over ct_law_map_over : Value}
    {f_law_judged : Addr} {od_law_judged an_law_judged : Option Addr} {sl_law_judged : Array (Option Value)} {oc_law_judged kV_law_judged dc_law_judged pm_law_judged cd_law_judged ct_law_judged : Value}
    {f_law_is_pairing : Addr} {od_law_is_pairing an_law_is_pairing : Option Addr} {sl_law_is_pairing : Array (Option Value)} {oc_law_is_pairing kV_law_is_pairing dc_law_is_pairing pm_law_is_pairing cd_law_is_pairing ct_law_is_pairing : Value}
    {f_law_same_names : Addr} {od_law_same_names an_law_same_names : Option Addr} {sl_law_same_names : Array (Option Value)} {oc_law_same_names kV_law_same_names dc_law_same_names pm_law_same_names cd_law_same_names ct_law_same_names : Value}
    {f_law_halves : Addr} {od_law_halves an_law_halves : Option Addr} {sl_law_halves : Array (Option Value)} {oc_law_halves kV_law_halves dc_law_halves pm_law_halves cd_law_halves ct_law_halves : Value}
    {f_law_spoilt : Addr} {od_law_spoilt an_law_spoilt : Option Addr} {sl_law_spoilt : Array (Option Value)} {oc_law_spoilt kV_law_spoilt dc_law_spoilt pm_law_spoilt cd_law_spoilt ct_law_spoilt : Value}
    {f_law_refused : Addr} {od_law_refused an_law_refused : Option Addr} {sl_law_refused : Array (Option Value)} {oc_law_refused kV_law_refused dc_law_refused pm_law_refused cd_law_refused ct_law_refused : Value}
    {C_Pattern : Addr}
    {f_Pattern_init : Addr} {od_Pattern_init an_Pattern_init : Option Addr} {sl_Pattern_init : Array (Option Value)} {oc_Pattern_init kV_Pattern_init dc_Pattern_init pm_Pattern_init cd_Pattern_init ct_Pattern_init : Value}
    {C_MetError : Addr}
    {C_BadPattern : Addr} {nm_BadPattern q_BadPattern : Str} {N_BadPattern : Addr} {bs_BadPattern : List Value} {sn_BadPattern : List Str} {sub_BadPattern : List Value} {ab_BadPattern : Bool} {col_BadPattern : Option Bool} {dd_BadPattern : Option Addr} {m0_BadPattern m1_BadPattern m2_BadPattern m3_BadPattern m5_BadPattern : Option Value}
    {f_BadPattern_init : Addr} {od_BadPattern_init an_BadPattern_init : Option Addr} {sl_BadPattern_init : Array (Option Value)} {oc_BadPattern_init kV_BadPattern_init dc_BadPattern_init pm_BadPattern_init cd_BadPattern_init ct_BadPattern_init : Value}
    {f_law : Addr} {od_law an_law : Option Addr} {sl_law : Array (Option Value)} {oc_law kV_law dc_law pm_law cd_law ct_law : Value}
    (z_len : PySem.W.nsIn K mainGlobals "len" = some none)
    (z_list : PySem.W.nsIn K mainGlobals "list" = some none)
    (z_tuple : PySem.W.nsIn K mainGlobals "tuple" = some none)
    (z_isinstance : PySem.W.nsIn K mainGlobals "isinstance" = some none)
    (z_int : PySem.W.nsIn K mainGlobals "int" = some none)
    (z_range : PySem.W.nsIn K mainGlobals "range" = some none)
    (z_max : PySem.W.nsIn K mainGlobals "max" = some none)
    (z_all : PySem.W.nsIn K mainGlobals "all" = some none)
    (z_bool : PySem.W.nsIn K mainGlobals "bool" = some none)
    (z_dict : PySem.W.nsIn K mainGlobals "dict" = some none)
    (z_str : PySem.W.nsIn K mainGlobals "str" = some none)
    (z_enumerate : PySem.W.nsIn K mainGlobals "enumerate" = some none)
    (z_sorted : PySem.W.nsIn K mainGlobals "sorted" = some none)
    (z_zip : PySem.W.nsIn K mainGlobals "zip" = some none)
    (n_LETTERS_tables : PySem.W.nsIn K mainGlobals "LETTERS_tables" = some (some (.str abc tk_LETTERS_tables)))
    (n_LETTERS_patterns : PySem.W.nsIn K mainGlobals "LETTERS_patterns" = some (some (.str abc tk_LETTERS_patterns)))
    (n_MOST_VALUE : PySem.W.nsIn K mainGlobals "MOST_VALUE" = some (some (.int 1000000000 tk_MOST_VALUE)))
    (n_MOST_ROWS : PySem.W.nsIn K mainGlobals "MOST_ROWS" = some (some (.int 6 tk_MOST_ROWS)))
    (a_is_row : PySem.W.nsIn K mainGlobals "is_row" = some (some (.ref f_is_row)))
    (l_is_row : K.lookup f_is_row = some ⟨oc_is_row, od_is_row, .func (PySem.W.fnOf "is_row" "is_row" (defArgs s_is_row) (defBody s_is_row) (defScope s_is_row) .none kV_is_row dc_is_row pm_is_row an_is_row cd_is_row ct_is_row), sl_is_row⟩)
    (c_is_row : PySem.W.codeIn K cd_is_row "is_row" = true)
    (k_is_row : PySem.W.keepIn K (.ref f_is_row) = true)
    (a_is_integer : PySem.W.nsIn K mainGlobals "is_integer" = some (some (.ref f_is_integer)))
    (l_is_integer : K.lookup f_is_integer = some ⟨oc_is_integer, od_is_integer, .func (PySem.W.fnOf "is_integer" "is_integer" (defArgs s_is_integer) (defBody s_is_integer) (defScope s_is_integer) .none kV_is_integer dc_is_integer pm_is_integer an_is_integer cd_is_integer ct_is_integer), sl_is_integer⟩)
    (c_is_integer : PySem.W.codeIn K cd_is_integer "is_integer" = true)
    (k_is_integer : PySem.W.keepIn K (.ref f_is_integer) = true)
    (a_is_value : PySem.W.nsIn K mainGlobals "is_value" = some (some (.ref f_is_value)))
    (l_is_value : K.lookup f_is_value = some ⟨oc_is_value, od_is_value, .func (PySem.W.fnOf "is_value" "is_value" (defArgs s_is_value) (defBody s_is_value) (defScope s_is_value) .none kV_is_value dc_is_value pm_is_value an_is_value cd_is_value ct_is_value), sl_is_value⟩)
    (c_is_value : PySem.W.codeIn K cd_is_value "is_value" = true)
    (k_is_value : PySem.W.keepIn K (.ref f_is_value) = true)
    (a_is_name : PySem.W.nsIn K mainGlobals "is_name" = some (some (.ref f_is_name)))
    (l_is_name : K.lookup f_is_name = some ⟨oc_is_name, od_is_name, .func (PySem.W.fnOf "is_name" "is_name" (defArgs s_is_name) (defBody s_is_name) (defScope s_is_name) .none kV_is_name dc_is_name pm_is_name an_is_name cd_is_name ct_is_name), sl_is_name⟩)
    (c_is_name : PySem.W.codeIn K cd_is_name "is_name" = true)
    (k_is_name : PySem.W.keepIn K (.ref f_is_name) = true)
    (a_checked_rows : PySem.W.nsIn K mainGlobals "checked_rows" = some (some (.ref f_checked_rows)))
    (l_checked_rows : K.lookup f_checked_rows = some ⟨oc_checked_rows, od_checked_rows, .func (PySem.W.fnOf "checked_rows" "checked_rows" (defArgs s_checked_rows) (defBody s_checked_rows) (defScope s_checked_rows) .none kV_checked_rows dc_checked_rows pm_checked_rows an_checked_rows cd_checked_rows ct_checked_rows), sl_checked_rows⟩)
    (c_checked_rows : PySem.W.codeIn K cd_checked_rows "checked_rows" = true)
    (k_checked_rows : PySem.W.keepIn K (.ref f_checked_rows) = true)
    (a_names_in_order : PySem.W.nsIn K mainGlobals "names_in_order" = some (some (.ref f_names_in_order)))
    (l_names_in_order : K.lookup f_names_in_order = some ⟨oc_names_in_order, od_names_in_order, .func (PySem.W.fnOf "names_in_order" "names_in_order" (defArgs s_names_in_order) (defBody s_names_in_order) (defScope s_names_in_order) .none kV_names_in_order dc_names_in_order pm_names_in_order an_names_in_order cd_names_in_order ct_names_in_order), sl_names_in_order⟩)
    (c_names_in_order : PySem.W.codeIn K cd_names_in_order "names_in_order" = true)
    (k_names_in_order : PySem.W.keepIn K (.ref f_names_in_order) = true)
    (a_renamed : PySem.W.nsIn K mainGlobals "renamed" = some (some (.ref f_renamed)))
    (l_renamed : K.lookup f_renamed = some ⟨oc_renamed, od_renamed, .func (PySem.W.fnOf "renamed" "renamed" (defArgs s_renamed) (defBody s_renamed) (defScope s_renamed) .none kV_renamed dc_renamed pm_renamed an_renamed cd_renamed ct_renamed), sl_renamed⟩)
    (c_renamed : PySem.W.codeIn K cd_renamed "renamed" = true)
    (k_renamed : PySem.W.keepIn K (.ref f_renamed) = true)
    (a_renamed_rows : PySem.W.nsIn K mainGlobals "renamed_rows" = some (some (.ref f_renamed_rows)))
    (l_renamed_rows : K.lookup f_renamed_rows = some ⟨oc_renamed_rows, od_renamed_rows, .func (PySem.W.fnOf "renamed_rows" "renamed_rows" (defArgs s_renamed_rows) (defBody s_renamed_rows) (defScope s_renamed_rows) .none kV_renamed_rows dc_renamed_rows pm_renamed_rows an_renamed_rows cd_renamed_rows ct_renamed_rows), sl_renamed_rows⟩)
    (c_renamed_rows : PySem.W.codeIn K cd_renamed_rows "renamed_rows" = true)
    (k_renamed_rows : PySem.W.keepIn K (.ref f_renamed_rows) = true)
    (a_is_group : PySem.W.nsIn K mainGlobals "is_group" = some (some (.ref f_is_group)))
    (l_is_group : K.lookup f_is_group = some ⟨oc_is_group, od_is_group, .func (PySem.W.fnOf "is_group" "is_group" (defArgs s_is_group) (defBody s_is_group) (defScope s_is_group) .none kV_is_group dc_is_group pm_is_group an_is_group cd_is_group ct_is_group), sl_is_group⟩)
    (c_is_group : PySem.W.codeIn K cd_is_group "is_group" = true)
    (k_is_group : PySem.W.keepIn K (.ref f_is_group) = true)
    (a_is_powers : PySem.W.nsIn K mainGlobals "is_powers" = some (some (.ref f_is_powers)))
    (l_is_powers : K.lookup f_is_powers = some ⟨oc_is_powers, od_is_powers, .func (PySem.W.fnOf "is_powers" "is_powers" (defArgs s_is_powers) (defBody s_is_powers) (defScope s_is_powers) .none kV_is_powers dc_is_powers pm_is_powers an_is_powers cd_is_powers ct_is_powers), sl_is_powers⟩)
    (c_is_powers : PySem.W.codeIn K cd_is_powers "is_powers" = true)
    (k_is_powers : PySem.W.keepIn K (.ref f_is_powers) = true)
    (a_law_bag : PySem.W.nsIn K mainGlobals "_law_bag" = some (some (.ref f_law_bag)))
    (l_law_bag : K.lookup f_law_bag = some ⟨oc_law_bag, od_law_bag, .func (PySem.W.fnOf "_law_bag" "_law_bag" (defArgs s__law_bag) (defBody s__law_bag) (defScope s__law_bag) .none kV_law_bag dc_law_bag pm_law_bag an_law_bag cd_law_bag ct_law_bag), sl_law_bag⟩)
    (c_law_bag : PySem.W.codeIn K cd_law_bag "_law_bag" = true)
    (k_law_bag : PySem.W.keepIn K (.ref f_law_bag) = true)
    (a_law_pick : PySem.W.nsIn K mainGlobals "_law_pick" = some (some (.ref f_law_pick)))
    (l_law_pick : K.lookup f_law_pick = some ⟨oc_law_pick, od_law_pick, .func (PySem.W.fnOf "_law_pick" "_law_pick" (defArgs s__law_pick) (defBody s__law_pick) (defScope s__law_pick) .none kV_law_pick dc_law_pick pm_law_pick an_law_pick cd_law_pick ct_law_pick), sl_law_pick⟩)
    (c_law_pick : PySem.W.codeIn K cd_law_pick "_law_pick" = true)
    (k_law_pick : PySem.W.keepIn K (.ref f_law_pick) = true)
    (a_law_name : PySem.W.nsIn K mainGlobals "_law_name" = some (some (.ref f_law_name)))
    (l_law_name : K.lookup f_law_name = some ⟨oc_law_name, od_law_name, .func (PySem.W.fnOf "_law_name" "_law_name" (defArgs s__law_name) (defBody s__law_name) (defScope s__law_name) .none kV_law_name dc_law_name pm_law_name an_law_name cd_law_name ct_law_name), sl_law_name⟩)
    (c_law_name : PySem.W.codeIn K cd_law_name "_law_name" = true)
    (k_law_name : PySem.W.keepIn K (.ref f_law_name) = true)
    (a_law_value : PySem.W.nsIn K mainGlobals "_law_value" = some (some (.ref f_law_value)))
    (l_law_value : K.lookup f_law_value = some ⟨oc_law_value, od_law_value, .func (PySem.W.fnOf "_law_value" "_law_value" (defArgs s__law_value) (defBody s__law_value) (defScope s__law_value) .none kV_law_value dc_law_value pm_law_value an_law_value cd_law_value ct_law_value), sl_law_value⟩)
    (c_law_value : PySem.W.codeIn K cd_law_value "_law_value" = true)
    (k_law_value : PySem.W.keepIn K (.ref f_law_value) = true)
    (a_law_tables : PySem.W.nsIn K mainGlobals "_law_tables" = some (some (.ref f_law_tables)))
    (l_law_tables : K.lookup f_law_tables = some ⟨oc_law_tables, od_law_tables, .func (PySem.W.fnOf "_law_tables" "_law_tables" (defArgs s__law_tables) (defBody s__law_tables) (defScope s__law_tables) .none kV_law_tables dc_law_tables pm_law_tables an_law_tables cd_law_tables ct_law_tables), sl_law_tables⟩)
    (c_law_tables : PySem.W.codeIn K cd_law_tables "_law_tables" = true)
    (k_law_tables : PySem.W.keepIn K (.ref f_law_tables) = true)
    (a_law_pool : PySem.W.nsIn K mainGlobals "_law_pool" = some (some (.ref f_law_pool)))
    (l_law_pool : K.lookup f_law_pool = some ⟨oc_law_pool, od_law_pool, .func (PySem.W.fnOf "_law_pool" "_law_pool" (defArgs s__law_pool) (defBody s__law_pool) (defScope s__law_pool) .none kV_law_pool dc_law_pool pm_law_pool an_law_pool cd_law_pool ct_law_pool), sl_law_pool⟩)
    (c_law_pool : PySem.W.codeIn K cd_law_pool "_law_pool" = true)
    (k_law_pool : PySem.W.keepIn K (.ref f_law_pool) = true)
    (a_law_pattern : PySem.W.nsIn K mainGlobals "_law_pattern" = some (some (.ref f_law_pattern)))
    (l_law_pattern : K.lookup f_law_pattern = some ⟨oc_law_pattern, od_law_pattern, .func (PySem.W.fnOf "_law_pattern" "_law_pattern" (defArgs s__law_pattern) (defBody s__law_pattern) (defScope s__law_pattern) .none kV_law_pattern dc_law_pattern pm_law_pattern an_law_pattern cd_law_pattern ct_law_pattern), sl_law_pattern⟩)
    (c_law_pattern : PySem.W.codeIn K cd_law_pattern "_law_pattern" = true)
    (k_law_pattern : PySem.W.keepIn K (.ref f_law_pattern) = true)
    (a_law_due : PySem.W.nsIn K mainGlobals "_law_due" = some (some (.ref f_law_due)))
    (l_law_due : K.lookup f_law_due = some ⟨oc_law_due, od_law_due, .func (PySem.W.fnOf "_law_due" "_law_due" (defArgs s__law_due) (defBody s__law_due) (defScope s__law_due) .none kV_law_due dc_law_due pm_law_due an_law_due cd_law_due ct_law_due), sl_law_due⟩)
    (c_law_due : PySem.W.codeIn K cd_law_due "_law_due" = true)
    (k_law_due : PySem.W.keepIn K (.ref f_law_due) = true)
    (a_law_turned : PySem.W.nsIn K mainGlobals "_law_turned" = some (some (.ref f_law_turned)))
    (l_law_turned : K.lookup f_law_turned = some ⟨oc_law_turned, od_law_turned, .func (PySem.W.fnOf "_law_turned" "_law_turned" (defArgs s__law_turned) (defBody s__law_turned) (defScope s__law_turned) .none kV_law_turned dc_law_turned pm_law_turned an_law_turned cd_law_turned ct_law_turned), sl_law_turned⟩)
    (c_law_turned : PySem.W.codeIn K cd_law_turned "_law_turned" = true)
    (k_law_turned : PySem.W.keepIn K (.ref f_law_turned) = true)
    (a_bound : PySem.W.nsIn K mainGlobals "bound" = some (some (.ref f_bound)))
    (l_bound : K.lookup f_bound = some ⟨oc_bound, od_bound, .func (PySem.W.fnOf "bound" "bound" (defArgs s_bound) (defBody s_bound) (defScope s_bound) .none kV_bound dc_bound pm_bound an_bound cd_bound ct_bound), sl_bound⟩)
    (c_bound : PySem.W.codeIn K cd_bound "bound" = true)
    (k_bound : PySem.W.keepIn K (.ref f_bound) = true)
    (a_paired : PySem.W.nsIn K mainGlobals "paired" = some (some (.ref f_paired)))
    (l_paired : K.lookup f_paired = some ⟨oc_paired, od_paired, .func (PySem.W.fnOf "paired" "paired" (defArgs s_paired) (defBody s_paired) (defScope s_paired) .none kV_paired dc_paired pm_paired an_paired cd_paired ct_paired), sl_paired⟩)
    (c_paired : PySem.W.codeIn K cd_paired "paired" = true)
    (k_paired : PySem.W.keepIn K (.ref f_paired) = true)
    (a_pairing : PySem.W.nsIn K mainGlobals "pairing" = some (some (.ref f_pairing)))
    (l_pairing : K.lookup f_pairing = some ⟨oc_pairing, od_pairing, .func (PySem.W.fnOf "pairing" "pairing" (defArgs s_pairing) (defBody s_pairing) (defScope s_pairing) .none kV_pairing dc_pairing pm_pairing an_pairing cd_pairing ct_pairing), sl_pairing⟩)
    (c_pairing : PySem.W.codeIn K cd_pairing "pairing" = true)
    (k_pairing : PySem.W.keepIn K (.ref f_pairing) = true)
    (a_law_integer : PySem.W.nsIn K mainGlobals "_law_integer" = some (some (.ref f_law_integer)))
    (l_law_integer : K.lookup f_law_integer = some ⟨oc_law_integer, od_law_integer, .func (PySem.W.fnOf "_law_integer" "_law_integer" (defArgs s__law_integer) (defBody s__law_integer) (defScope s__law_integer) .none kV_law_integer dc_law_integer pm_law_integer an_law_integer cd_law_integer ct_law_integer), sl_law_integer⟩)
    (c_law_integer : PySem.W.codeIn K cd_law_integer "_law_integer" = true)
    (k_law_integer : PySem.W.keepIn K (.ref f_law_integer) = true)
    (a_law_integers : PySem.W.nsIn K mainGlobals "_law_integers" = some (some (.ref f_law_integers)))
    (l_law_integers : K.lookup f_law_integers = some ⟨oc_law_integers, od_law_integers, .func (PySem.W.fnOf "_law_integers" "_law_integers" (defArgs s__law_integers) (defBody s__law_integers) (defScope s__law_integers) .none kV_law_integers dc_law_integers pm_law_integers an_law_integers cd_law_integers ct_law_integers), sl_law_integers⟩)
    (c_law_integers : PySem.W.codeIn K cd_law_integers "_law_integers" = true)
    (k_law_integers : PySem.W.keepIn K (.ref f_law_integers) = true)
    (a_law_shuffled : PySem.W.nsIn K mainGlobals "_law_shuffled" = some (some (.ref f_law_shuffled)))
    (l_law_shuffled : K.lookup f_law_shuffled = some ⟨oc_law_shuffled, od_law_shuffled, .func (PySem.W.fnOf "_law_shuffled" "_law_shuffled" (defArgs s__law_shuffled) (defBody s__law_shuffled) (defScope s__law_shuffled) .none kV_law_shuffled dc_law_shuffled pm_law_shuffled an_law_shuffled cd_law_shuffled ct_law_shuffled), sl_law_shuffled⟩)
    (c_law_shuffled : PySem.W.codeIn K cd_law_shuffled "_law_shuffled" = true)
    (k_law_shuffled : PySem.W.keepIn K (.ref f_law_shuffled) = true)
    (a_law_sent : PySem.W.nsIn K mainGlobals "_law_sent" = some (some (.ref f_law_sent)))
    (l_law_sent : K.lookup f_law_sent = some ⟨oc_law_sent, od_law_sent, .func (PySem.W.fnOf "_law_sent" "_law_sent" (defArgs s__law_sent) (defBody s__law_sent) (defScope s__law_sent) .none kV_law_sent dc_law_sent pm_law_sent an_law_sent cd_law_sent ct_law_sent), sl_law_sent⟩)
    (c_law_sent : PySem.W.codeIn K cd_law_sent "_law_sent" = true)
    (k_law_sent : PySem.W.keepIn K (.ref f_law_sent) = true)
    (a_law_map_over : PySem.W.nsIn K mainGlobals "_law_map_over" = some (some (.ref f_law_map_over)))
    (l_law_map_over : K.lookup f_law_map_over = some ⟨oc_law_map_over, od_law_map_over, .func (PySem.W.fnOf "_law_map_over" "_law_map_over" (defArgs s__law_map_over) (defBody s__law_map_over) (defScope s__law_map_over) .none kV_law_map_over dc_law_map_over pm_law_map_over an_law_map_over cd_law_map_over ct_law_map_over), sl_law_map_over⟩)
    (c_law_map_over : PySem.W.codeIn K cd_law_map_over "_law_map_over" = true)
    (k_law_map_over : PySem.W.keepIn K (.ref f_law_map_over) = true)
    (a_law_judged : PySem.W.nsIn K mainGlobals "_law_judged" = some (some (.ref f_law_judged)))
    (l_law_judged : K.lookup f_law_judged = some ⟨oc_law_judged, od_law_judged, .func (PySem.W.fnOf "_law_judged" "_law_judged" (defArgs s__law_judged) (defBody s__law_judged) (defScope s__law_judged) .none kV_law_judged dc_law_judged pm_law_judged an_law_judged cd_law_judged ct_law_judged), sl_law_judged⟩)
    (c_law_judged : PySem.W.codeIn K cd_law_judged "_law_judged" = true)
    (k_law_judged : PySem.W.keepIn K (.ref f_law_judged) = true)
    (a_law_is_pairing : PySem.W.nsIn K mainGlobals "_law_is_pairing" = some (some (.ref f_law_is_pairing)))
    (l_law_is_pairing : K.lookup f_law_is_pairing = some ⟨oc_law_is_pairing, od_law_is_pairing, .func (PySem.W.fnOf "_law_is_pairing" "_law_is_pairing" (defArgs s__law_is_pairing) (defBody s__law_is_pairing) (defScope s__law_is_pairing) .none kV_law_is_pairing dc_law_is_pairing pm_law_is_pairing an_law_is_pairing cd_law_is_pairing ct_law_is_pairing), sl_law_is_pairing⟩)
    (c_law_is_pairing : PySem.W.codeIn K cd_law_is_pairing "_law_is_pairing" = true)
    (k_law_is_pairing : PySem.W.keepIn K (.ref f_law_is_pairing) = true)
    (a_law_same_names : PySem.W.nsIn K mainGlobals "_law_same_names" = some (some (.ref f_law_same_names)))
    (l_law_same_names : K.lookup f_law_same_names = some ⟨oc_law_same_names, od_law_same_names, .func (PySem.W.fnOf "_law_same_names" "_law_same_names" (defArgs s__law_same_names) (defBody s__law_same_names) (defScope s__law_same_names) .none kV_law_same_names dc_law_same_names pm_law_same_names an_law_same_names cd_law_same_names ct_law_same_names), sl_law_same_names⟩)
    (c_law_same_names : PySem.W.codeIn K cd_law_same_names "_law_same_names" = true)
    (k_law_same_names : PySem.W.keepIn K (.ref f_law_same_names) = true)
    (a_law_halves : PySem.W.nsIn K mainGlobals "_law_halves" = some (some (.ref f_law_halves)))
    (l_law_halves : K.lookup f_law_halves = some ⟨oc_law_halves, od_law_halves, .func (PySem.W.fnOf "_law_halves" "_law_halves" (defArgs s__law_halves) (defBody s__law_halves) (defScope s__law_halves) .none kV_law_halves dc_law_halves pm_law_halves an_law_halves cd_law_halves ct_law_halves), sl_law_halves⟩)
    (c_law_halves : PySem.W.codeIn K cd_law_halves "_law_halves" = true)
    (k_law_halves : PySem.W.keepIn K (.ref f_law_halves) = true)
    (a_law_spoilt : PySem.W.nsIn K mainGlobals "_law_spoilt" = some (some (.ref f_law_spoilt)))
    (l_law_spoilt : K.lookup f_law_spoilt = some ⟨oc_law_spoilt, od_law_spoilt, .func (PySem.W.fnOf "_law_spoilt" "_law_spoilt" (defArgs s__law_spoilt) (defBody s__law_spoilt) (defScope s__law_spoilt) .none kV_law_spoilt dc_law_spoilt pm_law_spoilt an_law_spoilt cd_law_spoilt ct_law_spoilt), sl_law_spoilt⟩)
    (c_law_spoilt : PySem.W.codeIn K cd_law_spoilt "_law_spoilt" = true)
    (k_law_spoilt : PySem.W.keepIn K (.ref f_law_spoilt) = true)
    (a_law_refused : PySem.W.nsIn K mainGlobals "_law_refused" = some (some (.ref f_law_refused)))
    (l_law_refused : K.lookup f_law_refused = some ⟨oc_law_refused, od_law_refused, .func (PySem.W.fnOf "_law_refused" "_law_refused" (defArgs s__law_refused) (defBody s__law_refused) (defScope s__law_refused) .none kV_law_refused dc_law_refused pm_law_refused an_law_refused cd_law_refused ct_law_refused), sl_law_refused⟩)
    (c_law_refused : PySem.W.codeIn K cd_law_refused "_law_refused" = true)
    (k_law_refused : PySem.W.keepIn K (.ref f_law_refused) = true)
    (m_Pattern : PySem.W.nsIn K mainGlobals "Pattern" = some (some (.ref C_Pattern)))
    (a_Pattern_init : PySem.W.findIn K (.ref C_Pattern) "__init__" = some (some (.ref f_Pattern_init)))
    (l_Pattern_init : K.lookup f_Pattern_init = some ⟨oc_Pattern_init, od_Pattern_init, .func (PySem.W.fnOf "__init__" "Pattern.__init__" (defArgs s_Pattern_init) (defBody s_Pattern_init) (defScope s_Pattern_init) .none kV_Pattern_init dc_Pattern_init pm_Pattern_init an_Pattern_init cd_Pattern_init ct_Pattern_init), sl_Pattern_init⟩)
    (c_Pattern_init : PySem.W.codeIn K cd_Pattern_init "Pattern.__init__" = true)
    (k_Pattern_init : PySem.W.keepIn K (.ref f_Pattern_init) = true)
    (i_Pattern_init : PySem.W.isFn K (.ref f_Pattern_init) = true)
    (pg_Pattern : PySem.W.plainGet K C_Pattern Str.empty = true)
    (hd_Pattern : PySem.W.hasDictIn K C_Pattern = true)
    (po_Pattern : PySem.W.plainOver K C_Pattern = true)
    (sa_Pattern : PySem.W.findIn K (.ref C_Pattern) "__setattr__" = some (some (.builtin "object.__setattr__")))
    (mk_Pattern : PySem.W.makesIn K C_Pattern = true)
    (kc_Pattern : PySem.W.keepIn K (.ref C_Pattern) = true)
    (na_Pattern_rows : PySem.W.findIn K (.ref C_Pattern) "rows" = some none)
    (na_Pattern_group : PySem.W.findIn K (.ref C_Pattern) "group" = some none)
    (na_Pattern_powers : PySem.W.findIn K (.ref C_Pattern) "powers" = some none)
    (ha_Pattern : PySem.W.findIn K (.ref C_Pattern) "__class__" = some (some (.builtin "object.__class__")))
    (hn_Pattern : PySem.W.specialIn K (.builtin "object.__class__") "__get__" = some (some (.builtin "getset_descriptor.__get__")))
    (ht_Pattern : PySem.W.takesIn K (.builtin "object.__class__") = some true)
    (hm_Pattern : PySem.W.mroIn K C_Pattern (.type "object") = some true)
    (ne_Pattern : PySem.W.findIn K (.ref C_Pattern) "__ne__" = some (some (.builtin "object.__ne__")))
    (ob_Pattern : PySem.W.subIn K (.ref C_Pattern) (.type "object") = some true)
    (kt_Pattern_NoneType : PySem.W.kitOne K (.type "NoneType") (.ref C_Pattern) = some false)
    (nf_Pattern_NoneType : PySem.W.notFirst K C_Pattern (.type "NoneType") = true)
    (kt_Pattern_bool : PySem.W.kitOne K (.type "bool") (.ref C_Pattern) = some false)
    (nf_Pattern_bool : PySem.W.notFirst K C_Pattern (.type "bool") = true)
    (kt_Pattern_int : PySem.W.kitOne K (.type "int") (.ref C_Pattern) = some false)
    (nf_Pattern_int : PySem.W.notFirst K C_Pattern (.type "int") = true)
    (kt_Pattern_str : PySem.W.kitOne K (.type "str") (.ref C_Pattern) = some false)
    (nf_Pattern_str : PySem.W.notFirst K C_Pattern (.type "str") = true)
    (kt_Pattern_list : PySem.W.kitOne K (.type "list") (.ref C_Pattern) = some false)
    (nf_Pattern_list : PySem.W.notFirst K C_Pattern (.type "list") = true)
    (kt_Pattern_tuple : PySem.W.kitOne K (.type "tuple") (.ref C_Pattern) = some false)
    (nf_Pattern_tuple : PySem.W.notFirst K C_Pattern (.type "tuple") = true)
    (kt_Pattern_dict : PySem.W.kitOne K (.type "dict") (.ref C_Pattern) = some false)
    (nf_Pattern_dict : PySem.W.notFirst K C_Pattern (.type "dict") = true)
    (m_BadPattern : PySem.W.nsIn K mainGlobals "BadPattern" = some (some (.ref C_BadPattern)))
    (x_BadPattern : K.lookup C_BadPattern = some (excClassObj nm_BadPattern q_BadPattern C_BadPattern N_BadPattern bs_BadPattern [.ref C_MetError, .type "ValueError", .type "Exception", .type "BaseException", .type "object"] true sn_BadPattern sub_BadPattern ab_BadPattern col_BadPattern dd_BadPattern m0_BadPattern m1_BadPattern m2_BadPattern m3_BadPattern m5_BadPattern "ValueError.__new__"))
    (s_BadPattern : PySem.W.findIn K (.ref C_BadPattern) "__setattr__" = some (some (.builtin "object.__setattr__")))
    (ga_BadPattern : PySem.W.findIn K (.ref C_BadPattern) "__getattribute__" = some (some (.builtin "BaseException.__getattribute__")))
    (gg_BadPattern : PySem.W.findIn K (.ref C_BadPattern) "__getattr__" = some none)
    (no_BadPattern : PySem.W.findIn K (.ref C_BadPattern) "at" = some none)
    (a_BadPattern_init : PySem.W.findIn K (.ref C_BadPattern) "__init__" = some (some (.ref f_BadPattern_init)))
    (l_BadPattern_init : K.lookup f_BadPattern_init = some ⟨oc_BadPattern_init, od_BadPattern_init, .func (PySem.W.fnOf "__init__" "BadPattern.__init__" (defArgs s_BadPattern_init) (defBody s_BadPattern_init) (defScope s_BadPattern_init) .none kV_BadPattern_init dc_BadPattern_init pm_BadPattern_init an_BadPattern_init cd_BadPattern_init ct_BadPattern_init), sl_BadPattern_init⟩)
    (c_BadPattern_init : PySem.W.codeIn K cd_BadPattern_init "BadPattern.__init__" = true)
    (k_BadPattern_init : PySem.W.keepIn K (.ref f_BadPattern_init) = true)
    (t_BadPattern_init : PySem.W.typeIn K (.ref f_BadPattern_init) = some (.type "function"))
    (e_BadPattern : PySem.W.subIn K (.ref C_BadPattern) (.type "BaseException") = some true)
    (ty_BadPattern : PySem.W.typeIn K (.ref C_BadPattern) = some (.type "type"))
    (kk_BadPattern : PySem.W.keepIn K (.ref C_BadPattern) = true)
    (hd_BadPattern : PySem.W.hasDictIn K C_BadPattern = true)
    (xm_BadPattern_BadPattern : PySem.W.exmOne K (.ref C_BadPattern) (.ref C_BadPattern) = some true)
    (a_law : PySem.W.nsIn K mainGlobals "law" = some (some (.ref f_law)))
    (l_law : K.lookup f_law = some ⟨oc_law, od_law, .func (PySem.W.fnOf "law" "law" (defArgs s_law) (defBody s_law) (defScope s_law) .none kV_law dc_law pm_law an_law cd_law ct_law), sl_law⟩)
    (c_law : PySem.W.codeIn K cd_law "law" = true)
    (k_law : PySem.W.keepIn K (.ref f_law) = true) :
    ∃ fd : FuncData, (∀ (s : Shared) (v : Value), BindsTo s fd ⟨[v], []⟩ [("_law_script", v)]) ∧ ∀ base : Heap, K.In base → base.Ns mainGlobals mg → FnOk l.prog w K mg base CX0 12 fa fd ["_law_script"] (spLaw K) := by
  have e := hfa.symm.trans (PySem.W.mg_of X G a_law)
  cases e
  have B : Bi mg := ⟨PySem.W.mg_none_of X G z_len, PySem.W.mg_none_of X G z_list, PySem.W.mg_none_of X G z_tuple, PySem.W.mg_none_of X G z_isinstance, PySem.W.mg_none_of X G z_int, PySem.W.mg_none_of X G z_range, PySem.W.mg_none_of X G z_max, PySem.W.mg_none_of X G z_all, PySem.W.mg_none_of X G z_bool, PySem.W.mg_none_of X G z_dict, PySem.W.mg_none_of X G z_str, PySem.W.mg_none_of X G z_enumerate⟩
  have N_LETTERS_tables := PySem.W.mg_of X G n_LETTERS_tables
  have N_LETTERS_patterns := PySem.W.mg_of X G n_LETTERS_patterns
  have N_MOST_VALUE := PySem.W.mg_of X G n_MOST_VALUE
  have N_MOST_ROWS := PySem.W.mg_of X G n_MOST_ROWS
  have F_is_row := fun_mk (st := s_is_row) l_is_row c_is_row k_is_row
  have b_is_row := F_is_row.binds (ps := ["thing"]) fun _ _ _ _ _ _ us hl => match us, hl with | [_], _ => rfl
  have D_is_row : Dfn K mg "is_row" s_is_row ["thing"] := ⟨_, _, F_is_row, PySem.W.mg_of X G a_is_row, b_is_row⟩
  have F_is_integer := fun_mk (st := s_is_integer) l_is_integer c_is_integer k_is_integer
  have b_is_integer := F_is_integer.binds (ps := ["thing"]) fun _ _ _ _ _ _ us hl => match us, hl with | [_], _ => rfl
  have D_is_integer : Dfn K mg "is_integer" s_is_integer ["thing"] := ⟨_, _, F_is_integer, PySem.W.mg_of X G a_is_integer, b_is_integer⟩
  have F_is_value := fun_mk (st := s_is_value) l_is_value c_is_value k_is_value
  have b_is_value := F_is_value.binds (ps := ["thing"]) fun _ _ _ _ _ _ us hl => match us, hl with | [_], _ => rfl
  have D_is_value : Dfn K mg "is_value" s_is_value ["thing"] := ⟨_, _, F_is_value, PySem.W.mg_of X G a_is_value, b_is_value⟩
  have F_is_name := fun_mk (st := s_is_name) l_is_name c_is_name k_is_name
  have b_is_name := F_is_name.binds (ps := ["thing"]) fun _ _ _ _ _ _ us hl => match us, hl with | [_], _ => rfl
  have D_is_name : Dfn K mg "is_name" s_is_name ["thing"] := ⟨_, _, F_is_name, PySem.W.mg_of X G a_is_name, b_is_name⟩
  have F_checked_rows := fun_mk (st := s_checked_rows) l_checked_rows c_checked_rows k_checked_rows
  have b_checked_rows := F_checked_rows.binds (ps := ["rows"]) fun _ _ _ _ _ _ us hl => match us, hl with | [_], _ => rfl
  have D_checked_rows : Dfn K mg "checked_rows" s_checked_rows ["rows"] := ⟨_, _, F_checked_rows, PySem.W.mg_of X G a_checked_rows, b_checked_rows⟩
  have F_names_in_order := fun_mk (st := s_names_in_order) l_names_in_order c_names_in_order k_names_in_order
  have b_names_in_order := F_names_in_order.binds (ps := ["rows"]) fun _ _ _ _ _ _ us hl => match us, hl with | [_], _ => rfl
  have D_names_in_order : Dfn K mg "names_in_order" s_names_in_order ["rows"] := ⟨_, _, F_names_in_order, PySem.W.mg_of X G a_names_in_order, b_names_in_order⟩
  have F_renamed := fun_mk (st := s_renamed) l_renamed c_renamed k_renamed
  have b_renamed := F_renamed.binds (ps := ["symbols", "names"]) fun _ _ _ _ _ _ us hl => match us, hl with | [_, _], _ => rfl
  have D_renamed : Dfn K mg "renamed" s_renamed ["symbols", "names"] := ⟨_, _, F_renamed, PySem.W.mg_of X G a_renamed, b_renamed⟩
  have F_renamed_rows := fun_mk (st := s_renamed_rows) l_renamed_rows c_renamed_rows k_renamed_rows
  have b_renamed_rows := F_renamed_rows.binds (ps := ["rows", "names"]) fun _ _ _ _ _ _ us hl => match us, hl with | [_, _], _ => rfl
  have D_renamed_rows : Dfn K mg "renamed_rows" s_renamed_rows ["rows", "names"] := ⟨_, _, F_renamed_rows, PySem.W.mg_of X G a_renamed_rows, b_renamed_rows⟩
  have F_is_group := fun_mk (st := s_is_group) l_is_group c_is_group k_is_group
  have b_is_group := F_is_group.binds (ps := ["group", "names"]) fun _ _ _ _ _ _ us hl => match us, hl with | [_, _], _ => rfl
  have D_is_group : Dfn K mg "is_group" s_is_group ["group", "names"] := ⟨_, _, F_is_group, PySem.W.mg_of X G a_is_group, b_is_group⟩
  have F_is_powers := fun_mk (st := s_is_powers) l_is_powers c_is_powers k_is_powers
  have b_is_powers := F_is_powers.binds (ps := ["powers", "names"]) fun _ _ _ _ _ _ us hl => match us, hl with | [_, _], _ => rfl
  have D_is_powers : Dfn K mg "is_powers" s_is_powers ["powers", "names"] := ⟨_, _, F_is_powers, PySem.W.mg_of X G a_is_powers, b_is_powers⟩
  have F_law_bag := fun_mk (st := s__law_bag) l_law_bag c_law_bag k_law_bag
  have b_law_bag := F_law_bag.binds (ps := ["_law_script"]) fun _ _ _ _ _ _ us hl => match us, hl with | [_], _ => rfl
  have D_law_bag : Dfn K mg "_law_bag" s__law_bag ["_law_script"] := ⟨_, _, F_law_bag, PySem.W.mg_of X G a_law_bag, b_law_bag⟩
  have F_law_pick := fun_mk (st := s__law_pick) l_law_pick c_law_pick k_law_pick
  have b_law_pick := F_law_pick.binds (ps := ["_law_bag_here", "_law_many"]) fun _ _ _ _ _ _ us hl => match us, hl with | [_, _], _ => rfl
  have D_law_pick : Dfn K mg "_law_pick" s__law_pick ["_law_bag_here", "_law_many"] := ⟨_, _, F_law_pick, PySem.W.mg_of X G a_law_pick, b_law_pick⟩
  have F_law_name := fun_mk (st := s__law_name) l_law_name c_law_name k_law_name
  have b_law_name := F_law_name.binds (ps := ["_law_bag_here", "_law_taken"]) fun _ _ _ _ _ _ us hl => match us, hl with | [_, _], _ => rfl
  have D_law_name : Dfn K mg "_law_name" s__law_name ["_law_bag_here", "_law_taken"] := ⟨_, _, F_law_name, PySem.W.mg_of X G a_law_name, b_law_name⟩
  have F_law_value := fun_mk (st := s__law_value) l_law_value c_law_value k_law_value
  have b_law_value := F_law_value.binds (ps := ["_law_bag_here"]) fun _ _ _ _ _ _ us hl => match us, hl with | [_], _ => rfl
  have D_law_value : Dfn K mg "_law_value" s__law_value ["_law_bag_here"] := ⟨_, _, F_law_value, PySem.W.mg_of X G a_law_value, b_law_value⟩
  have F_law_tables := fun_mk (st := s__law_tables) l_law_tables c_law_tables k_law_tables
  have b_law_tables := F_law_tables.binds (ps := ["_law_bag_here"]) fun _ _ _ _ _ _ us hl => match us, hl with | [_], _ => rfl
  have D_law_tables : Dfn K mg "_law_tables" s__law_tables ["_law_bag_here"] := ⟨_, _, F_law_tables, PySem.W.mg_of X G a_law_tables, b_law_tables⟩
  have F_law_pool := fun_mk (st := s__law_pool) l_law_pool c_law_pool k_law_pool
  have b_law_pool := F_law_pool.binds (ps := ["_law_bag_here"]) fun _ _ _ _ _ _ us hl => match us, hl with | [_], _ => rfl
  have D_law_pool : Dfn K mg "_law_pool" s__law_pool ["_law_bag_here"] := ⟨_, _, F_law_pool, PySem.W.mg_of X G a_law_pool, b_law_pool⟩
  have F_law_pattern := fun_mk (st := s__law_pattern) l_law_pattern c_law_pattern k_law_pattern
  have b_law_pattern := F_law_pattern.binds (ps := ["_law_bag_here", "_law_tables_here", "_law_most"]) fun _ _ _ _ _ _ us hl => match us, hl with | [_, _, _], _ => rfl
  have D_law_pattern : Dfn K mg "_law_pattern" s__law_pattern ["_law_bag_here", "_law_tables_here", "_law_most"] := ⟨_, _, F_law_pattern, PySem.W.mg_of X G a_law_pattern, b_law_pattern⟩
  have F_law_due := fun_mk (st := s__law_due) l_law_due c_law_due k_law_due
  have b_law_due := F_law_due.binds (ps := ["_law_rows", "_law_group", "_law_powers"]) fun _ _ _ _ _ _ us hl => match us, hl with | [_, _, _], _ => rfl
  have D_law_due : Dfn K mg "_law_due" s__law_due ["_law_rows", "_law_group", "_law_powers"] := ⟨_, _, F_law_due, PySem.W.mg_of X G a_law_due, b_law_due⟩
  have F_law_turned := fun_mk (st := s__law_turned) l_law_turned c_law_turned k_law_turned
  have b_law_turned := F_law_turned.binds (ps := ["_law_rows", "_law_group", "_law_powers", "_law_pool_here"]) fun _ _ _ _ _ _ us hl => match us, hl with | [_, _, _, _], _ => rfl
  have D_law_turned : Dfn K mg "_law_turned" s__law_turned ["_law_rows", "_law_group", "_law_powers", "_law_pool_here"] := ⟨_, _, F_law_turned, PySem.W.mg_of X G a_law_turned, b_law_turned⟩
  have F_bound := fun_mk (st := s_bound) l_bound c_bound k_bound
  have b_bound := F_bound.binds (ps := ["known", "symbols", "targets"]) fun _ _ _ _ _ _ us hl => match us, hl with | [_, _, _], _ => rfl
  have D_bound : Dfn K mg "bound" s_bound ["known", "symbols", "targets"] := ⟨_, _, F_bound, PySem.W.mg_of X G a_bound, b_bound⟩
  have F_paired := fun_mk (st := s_paired) l_paired c_paired k_paired
  have b_paired := F_paired.binds (ps := ["one", "other", "chosen", "there", "back"]) fun _ _ _ _ _ _ us hl => match us, hl with | [_, _, _, _, _], _ => rfl
  have D_paired : Dfn K mg "paired" s_paired ["one", "other", "chosen", "there", "back"] := ⟨_, _, F_paired, PySem.W.mg_of X G a_paired, b_paired⟩
  have F_pairing := fun_mk (st := s_pairing) l_pairing c_pairing k_pairing
  have b_pairing := F_pairing.binds (ps := ["one", "other"]) fun _ _ _ _ _ _ us hl => match us, hl with | [_, _], _ => rfl
  have D_pairing : Dfn K mg "pairing" s_pairing ["one", "other"] := ⟨_, _, F_pairing, PySem.W.mg_of X G a_pairing, b_pairing⟩
  have F_law_integer := fun_mk (st := s__law_integer) l_law_integer c_law_integer k_law_integer
  have b_law_integer := F_law_integer.binds (ps := ["_law_thing"]) fun _ _ _ _ _ _ us hl => match us, hl with | [_], _ => rfl
  have D_law_integer : Dfn K mg "_law_integer" s__law_integer ["_law_thing"] := ⟨_, _, F_law_integer, PySem.W.mg_of X G a_law_integer, b_law_integer⟩
  have F_law_integers := fun_mk (st := s__law_integers) l_law_integers c_law_integers k_law_integers
  have b_law_integers := F_law_integers.binds (ps := ["_law_thing"]) fun _ _ _ _ _ _ us hl => match us, hl with | [_], _ => rfl
  have D_law_integers : Dfn K mg "_law_integers" s__law_integers ["_law_thing"] := ⟨_, _, F_law_integers, PySem.W.mg_of X G a_law_integers, b_law_integers⟩
  have F_law_shuffled := fun_mk (st := s__law_shuffled) l_law_shuffled c_law_shuffled k_law_shuffled
  have b_law_shuffled := F_law_shuffled.binds (ps := ["_law_bag_here", "_law_things"]) fun _ _ _ _ _ _ us hl => match us, hl with | [_, _], _ => rfl
  have D_law_shuffled : Dfn K mg "_law_shuffled" s__law_shuffled ["_law_bag_here", "_law_things"] := ⟨_, _, F_law_shuffled, PySem.W.mg_of X G a_law_shuffled, b_law_shuffled⟩
  have F_law_sent := fun_mk (st := s__law_sent) l_law_sent c_law_sent k_law_sent
  have b_law_sent := F_law_sent.binds (ps := ["_law_known", "_law_symbols", "_law_targets"]) fun _ _ _ _ _ _ us hl => match us, hl with | [_, _, _], _ => rfl
  have D_law_sent : Dfn K mg "_law_sent" s__law_sent ["_law_known", "_law_symbols", "_law_targets"] := ⟨_, _, F_law_sent, PySem.W.mg_of X G a_law_sent, b_law_sent⟩
  have F_law_map_over := fun_mk (st := s__law_map_over) l_law_map_over c_law_map_over k_law_map_over
  have b_law_map_over := F_law_map_over.binds (ps := ["_law_rows", "_law_group", "_law_other_rows", "_law_other_group", "_law_indexes"]) fun _ _ _ _ _ _ us hl => match us, hl with | [_, _, _, _, _], _ => rfl
  have D_law_map_over : Dfn K mg "_law_map_over" s__law_map_over ["_law_rows", "_law_group", "_law_other_rows", "_law_other_group", "_law_indexes"] := ⟨_, _, F_law_map_over, PySem.W.mg_of X G a_law_map_over, b_law_map_over⟩
  have F_law_judged := fun_mk (st := s__law_judged) l_law_judged c_law_judged k_law_judged
  have b_law_judged := F_law_judged.binds (ps := ["_law_rows", "_law_group", "_law_other_rows", "_law_other_group", "_law_thing"]) fun _ _ _ _ _ _ us hl => match us, hl with | [_, _, _, _, _], _ => rfl
  have D_law_judged : Dfn K mg "_law_judged" s__law_judged ["_law_rows", "_law_group", "_law_other_rows", "_law_other_group", "_law_thing"] := ⟨_, _, F_law_judged, PySem.W.mg_of X G a_law_judged, b_law_judged⟩
  have F_law_is_pairing := fun_mk (st := s__law_is_pairing) l_law_is_pairing c_law_is_pairing k_law_is_pairing
  have b_law_is_pairing := F_law_is_pairing.binds (ps := ["_law_one", "_law_other", "_law_thing"]) fun _ _ _ _ _ _ us hl => match us, hl with | [_, _, _], _ => rfl
  have D_law_is_pairing : Dfn K mg "_law_is_pairing" s__law_is_pairing ["_law_one", "_law_other", "_law_thing"] := ⟨_, _, F_law_is_pairing, PySem.W.mg_of X G a_law_is_pairing, b_law_is_pairing⟩
  have F_law_same_names := fun_mk (st := s__law_same_names) l_law_same_names c_law_same_names k_law_same_names
  have b_law_same_names := F_law_same_names.binds (ps := ["_law_one", "_law_other"]) fun _ _ _ _ _ _ us hl => match us, hl with | [_, _], _ => rfl
  have D_law_same_names : Dfn K mg "_law_same_names" s__law_same_names ["_law_one", "_law_other"] := ⟨_, _, F_law_same_names, PySem.W.mg_of X G a_law_same_names, b_law_same_names⟩
  have F_law_halves := fun_mk (st := s__law_halves) l_law_halves c_law_halves k_law_halves
  have b_law_halves := F_law_halves.binds (ps := ["_law_one", "_law_other", "_law_chosen"]) fun _ _ _ _ _ _ us hl => match us, hl with | [_, _, _], _ => rfl
  have D_law_halves : Dfn K mg "_law_halves" s__law_halves ["_law_one", "_law_other", "_law_chosen"] := ⟨_, _, F_law_halves, PySem.W.mg_of X G a_law_halves, b_law_halves⟩
  have F_law_spoilt := fun_mk (st := s__law_spoilt) l_law_spoilt c_law_spoilt k_law_spoilt
  have b_law_spoilt := F_law_spoilt.binds (ps := ["_law_bag_here", "_law_rows", "_law_group", "_law_powers"]) fun _ _ _ _ _ _ us hl => match us, hl with | [_, _, _, _], _ => rfl
  have D_law_spoilt : Dfn K mg "_law_spoilt" s__law_spoilt ["_law_bag_here", "_law_rows", "_law_group", "_law_powers"] := ⟨_, _, F_law_spoilt, PySem.W.mg_of X G a_law_spoilt, b_law_spoilt⟩
  have F_law_refused := fun_mk (st := s__law_refused) l_law_refused c_law_refused k_law_refused
  have b_law_refused := F_law_refused.binds (ps := ["_law_one", "_law_other"]) fun _ _ _ _ _ _ us hl => match us, hl with | [_, _], _ => rfl
  have D_law_refused : Dfn K mg "_law_refused" s__law_refused ["_law_one", "_law_other"] := ⟨_, _, F_law_refused, PySem.W.mg_of X G a_law_refused, b_law_refused⟩
  have F_Pattern_init := fun_mk (st := s_Pattern_init) l_Pattern_init c_Pattern_init k_Pattern_init
  have b_Pattern_init := F_Pattern_init.binds (ps := ["self", "rows", "group", "powers"]) fun _ _ _ _ _ _ us hl => match us, hl with | [_, _, _, _], _ => rfl
  have M_Pattern_init : Meth K C_Pattern "__init__" f_Pattern_init := ⟨a_Pattern_init, i_Pattern_init, k_Pattern_init⟩
  have CL_Pattern : Cls K C_Pattern := ⟨pg_Pattern, hd_Pattern, po_Pattern, sa_Pattern⟩
  have XX_Pattern : InsX K C_Pattern := ⟨CL_Pattern, ha_Pattern, hn_Pattern, ht_Pattern, hm_Pattern, by simp only [List.mem_cons, List.not_mem_nil, or_false, forall_eq_or_imp, forall_eq]; exact ⟨kt_Pattern_NoneType, kt_Pattern_bool, kt_Pattern_int, kt_Pattern_str, kt_Pattern_list, kt_Pattern_tuple, kt_Pattern_dict⟩⟩
  have F_BadPattern_init := fun_mk (st := s_BadPattern_init) l_BadPattern_init c_BadPattern_init k_BadPattern_init
  have b_BadPattern_init := F_BadPattern_init.binds (ps := ["self", "at"]) fun _ _ _ _ _ _ us hl => match us, hl with | [_, _], _ => rfl
  have O_BadPattern : OexC K C_BadPattern := ⟨⟨_, _, _, _, _, _, _, _, _, _, _, _, _, _, _, x_BadPattern, (by show PySem.HandSPX.refsVE [.type "ValueError", .type "Exception", .type "BaseException", .type "object"] = true; decide +kernel)⟩, s_BadPattern, e_BadPattern, ty_BadPattern, kk_BadPattern⟩
  have ER_BadPattern : ∀ base, Err l.prog w K mg base "BadPattern" "at" C_BadPattern := fun base => ⟨O_BadPattern, PySem.W.mg_of X G m_BadPattern, ⟨_, _, a_BadPattern_init, t_BadPattern_init, ok_BadPattern_init F_BadPattern_init O_BadPattern no_BadPattern, b_BadPattern_init⟩, no_BadPattern, ⟨ga_BadPattern, gg_BadPattern, e_BadPattern, hd_BadPattern⟩⟩
  have F_law := fun_mk (st := s_law) l_law c_law k_law
  refine ⟨PySem.W.fnOf "law" "law" (defArgs s_law) (defBody s_law) (defScope s_law) .none kV_law dc_law pm_law an_law cd_law ct_law, fun s v => .of_eq rfl, fun base _ _ => ?_⟩
  have BP : BiP mg := ⟨B, PySem.W.mg_none_of X G z_sorted⟩
  have U : PatCls K mg C_Pattern := ⟨CL_Pattern, na_Pattern_rows, na_Pattern_group, na_Pattern_powers, PySem.W.mg_of X G m_Pattern⟩
  have G_is_row : Has l.prog w K mg base CX0 "is_row" ["thing"] 1 spIsRow := ok_is_row B D_is_row
  have G_is_integer : Has l.prog w K mg base CX0 "is_integer" ["thing"] 1 spInt := ok_is_integer B D_is_integer
  have G_is_value : Has l.prog w K mg base CX0 "is_value" ["thing"] 2 spIsVal := ok_is_value B N_MOST_VALUE D_is_value G_is_integer
  have G_is_name : Has l.prog w K mg base CX0 "is_name" ["thing"] 1 spIsName := ok_is_name B N_LETTERS_tables D_is_name
  have G_checked_rows : Has l.prog w K mg base CX0 "checked_rows" ["rows"] 3 spChecked := ok_checked B N_MOST_ROWS D_checked_rows G_is_row G_is_name G_is_value
  have G_names_in_order : Has l.prog w K mg base CX0 "names_in_order" ["rows"] 2 spNames := ok_names B N_LETTERS_patterns D_names_in_order
  have G_renamed : Has l.prog w K mg base CX0 "renamed" ["symbols", "names"] 2 spRenamed := ok_renamed B D_renamed
  have G_renamed_rows : Has l.prog w K mg base CX0 "renamed_rows" ["rows", "names"] 3 spRenRows := ok_renrows B D_renamed_rows G_renamed
  have G_is_group : Has l.prog w K mg base CX0 "is_group" ["group", "names"] 3 spIsGroup := ok_is_group B D_is_group G_is_row G_is_value
  have G_is_powers : Has l.prog w K mg base CX0 "is_powers" ["powers", "names"] 2 spIsPowers := ok_is_powers B D_is_powers G_is_integer
  have GI : FnOk l.prog w K mg base CX0 4 f_Pattern_init _ ["self", "rows", "group", "powers"] (spPatI C_Pattern) := ok_pat_init BP F_Pattern_init U G_checked_rows G_names_in_order G_is_group G_is_powers G_renamed_rows G_renamed
  have G_law_pick : Has l.prog w K mg base CX0 "_law_pick" ["_law_bag_here", "_law_many"] 1 spPick := ok_pick B D_law_pick
  have G_law_name : Has l.prog w K mg base CX0 "_law_name" ["_law_bag_here", "_law_taken"] 2 spName := ok_name B D_law_name G_law_pick
  have G_law_value : Has l.prog w K mg base CX0 "_law_value" ["_law_bag_here"] 2 spValue := ok_value B D_law_value G_law_pick
  have G_law_tables : Has l.prog w K mg base CX0 "_law_tables" ["_law_bag_here"] 3 spTables := ok_tables B D_law_tables G_law_pick G_law_name
  have G_law_pool : Has l.prog w K mg base CX0 "_law_pool" ["_law_bag_here"] 2 spPool := ok_pool B D_law_pool G_law_pick
  have G_law_pattern : Has l.prog w K mg base CX0 "_law_pattern" ["_law_bag_here", "_law_tables_here", "_law_most"] 3 spPattern := ok_pattern B D_law_pattern G_law_pick G_law_pool G_law_value
  have G_law_due : Has l.prog w K mg base CX0 "_law_due" ["_law_rows", "_law_group", "_law_powers"] 2 spDue := ok_due BP D_law_due
  have G_law_turned : Has l.prog w K mg base CX0 "_law_turned" ["_law_rows", "_law_group", "_law_powers", "_law_pool_here"] 2 spTurned := ok_turned B D_law_turned
  have G_bound : Has l.prog w K mg base CX0 "bound" ["known", "symbols", "targets"] 2 spBound := ok_bound B (PySem.W.mg_none_of X G z_zip) D_bound
  have G_paired : ∀ n : Nat, Has l.prog w K mg base CX0 "paired" ["one", "other", "chosen", "there", "back"] (n + 3) (spPaired C_Pattern n) := ok_paired BP D_paired U G_bound
  have G_pairing : Has l.prog w K mg base (L2.CX l.prog w) "pairing" ["one", "other"] 10 (spPairing C_Pattern C_BadPattern) := ok_pairing B D_pairing U XX_Pattern ER_BadPattern G_bound G_paired
  obtain ⟨fG, fdG, FG, gG, kG, bG⟩ := G_pairing
  have G_law_integer : Has l.prog w K mg base CX0 "_law_integer" ["_law_thing"] 1 spInt1 := ok_integer1 B D_law_integer
  have G_law_integers : Has l.prog w K mg base CX0 "_law_integers" ["_law_thing"] 2 spIntsN := ok_integersN B D_law_integers G_law_integer
  have G_law_sent : Has l.prog w K mg base CX0 "_law_sent" ["_law_known", "_law_symbols", "_law_targets"] 2 spBound := ok_sent B D_law_sent
  have G_law_map_over : Has l.prog w K mg base CX0 "_law_map_over" ["_law_rows", "_law_group", "_law_other_rows", "_law_other_group", "_law_indexes"] 3 spMapOver := ok_map_over B D_law_map_over G_law_sent
  have G_law_judged : Has l.prog w K mg base CX0 "_law_judged" ["_law_rows", "_law_group", "_law_other_rows", "_law_other_group", "_law_thing"] 4 spJudgedG := ok_judgedG B D_law_judged G_law_integers G_law_map_over
  have G_law_is_pairing : Has l.prog w K mg base CX0 "_law_is_pairing" ["_law_one", "_law_other", "_law_thing"] 5 spIsPairing := ok_is_pairing BP D_law_is_pairing G_law_judged G_law_map_over
  have G_law_halves : Has l.prog w K mg base CX0 "_law_halves" ["_law_one", "_law_other", "_law_chosen"] 4 spHalves := ok_halves B D_law_halves G_law_sent G_law_map_over
  have G_law_same_names : Has l.prog w K mg base CX0 "_law_same_names" ["_law_one", "_law_other"] 6 spSameN := ok_same_names B D_law_same_names G_law_halves G_law_is_pairing
  have G_law_shuffled : Has l.prog w K mg base CX0 "_law_shuffled" ["_law_bag_here", "_law_things"] 2 spShuffled := ok_shuffled B D_law_shuffled G_law_pick
  have G_law_spoilt : Has l.prog w K mg base CX0 "_law_spoilt" ["_law_bag_here", "_law_rows", "_law_group", "_law_powers"] 3 spSpoilt := ok_spoilt B D_law_spoilt G_law_pick G_law_value
  have G_law_refused : Has l.prog w K mg base CX0 "_law_refused" ["_law_one", "_law_other"] 11 (spRefd C_Pattern) := ok_refd B D_law_refused FG gG kG bG (PySem.W.mg_of X G m_BadPattern) ⟨ga_BadPattern, gg_BadPattern, e_BadPattern, hd_BadPattern⟩ no_BadPattern xm_BadPattern_BadPattern
  exact ok_law BP F_law U ⟨mk_Pattern, a_Pattern_init, i_Pattern_init, kc_Pattern⟩ GI b_Pattern_init FG gG kG bG (ok_bag B D_law_bag) G_law_pick G_law_tables G_law_pattern G_law_due G_law_spoilt G_law_turned G_law_shuffled G_law_pool G_law_same_names G_law_is_pairing G_law_refused
theorem walk {l : PySem.W.OpenLaw} {q : Program} {loose : List Str} {XP : (Str → Option Value) → Heap → Prop} {YP : World → Heap → Prop} {d : DefRec} {K : Params → PySem.W.Frag} (hn : l.most = some 63) (hdf : d.params.defaults = [])
    (hY : ∀ (w : World) (h : Heap), YP w h → (K w.params).In h)
    (F : ∀ (w : World) (mg : Str → Option Value) (fa : Addr) (h : Heap), (K w.params).In h → h.Ns mainGlobals mg → mg d.name = some (.ref fa) →
      ∃ fd : FuncData, (∀ (s : Shared) (u : Value), BindsTo s fd ⟨[u], []⟩ [("_law_script", u)]) ∧ ∀ base : Heap, (K w.params).In base → base.Ns mainGlobals mg → FnOk l.prog w (K w.params) mg base CX0 12 fa fd ["_law_script"] (spLaw (K w.params))) :
    PySem.W.WalkO q loose XP YP l.row.toRowW d [] (fun f vs => PySem.call f vs) :=
  L2.walk_of (n := 63) (k := 12) (x := "_law_script") (CX := fun _ => CX0) (sp := fun w => spLaw (K w.params)) hn (by decide) hdf ⟨rfl, by decide, by decide⟩ hY F (fun _ _ a ns hl _ hS => ⟨a, ns, rfl, hS, fun _ => rfl⟩) fun _ _ _ _ _ z => z
end Fm
open PySem PySem.W PyProof.Rows
set_option maxRecDepth 100000 in
set_option maxHeartbeats 0 in
theorem PySem.Challenge.cw_firstmet_k30_pairing_holds : PySem.Challenge.rw_firstmet_k30_pairing.Holds := by
  w_on; o_law; k_head; (case hw => w_witness2)
  k_fill
  refine Fm.walk (l := PySem.Challenge.rw_firstmet_k30_pairing) rfl rfl (fun w h Y => PySem.W.kIn_of Y) ?F
  case F =>
    intro w mg fa h KX G hmg
    refine' Fm.all_mk KX G hmg ?z_len ?z_list ?z_tuple ?z_isinstance ?z_int ?z_range ?z_max ?z_all ?z_bool ?z_dict ?z_str ?z_enumerate ?z_sorted ?z_zip ?n_LETTERS_tables ?n_LETTERS_patterns ?n_MOST_VALUE ?n_MOST_ROWS ?a_is_row ?l_is_row ?c_is_row ?k_is_row ?a_is_integer ?l_is_integer ?c_is_integer ?k_is_integer ?a_is_value ?l_is_value ?c_is_value ?k_is_value ?a_is_name ?l_is_name ?c_is_name ?k_is_name ?a_checked_rows ?l_checked_rows ?c_checked_rows ?k_checked_rows ?a_names_in_order ?l_names_in_order ?c_names_in_order ?k_names_in_order ?a_renamed ?l_renamed ?c_renamed ?k_renamed ?a_renamed_rows ?l_renamed_rows ?c_renamed_rows ?k_renamed_rows ?a_is_group ?l_is_group ?c_is_group ?k_is_group ?a_is_powers ?l_is_powers ?c_is_powers ?k_is_powers ?a_law_bag ?l_law_bag ?c_law_bag ?k_law_bag ?a_law_pick ?l_law_pick ?c_law_pick ?k_law_pick ?a_law_name ?l_law_name ?c_law_name ?k_law_name ?a_law_value ?l_law_value ?c_law_value ?k_law_value ?a_law_tables ?l_law_tables ?c_law_tables ?k_law_tables ?a_law_pool ?l_law_pool ?c_law_pool ?k_law_pool ?a_law_pattern ?l_law_pattern ?c_law_pattern ?k_law_pattern ?a_law_due ?l_law_due ?c_law_due ?k_law_due ?a_law_turned ?l_law_turned ?c_law_turned ?k_law_turned ?a_bound ?l_bound ?c_bound ?k_bound ?a_paired ?l_paired ?c_paired ?k_paired ?a_pairing ?l_pairing ?c_pairing ?k_pairing ?a_law_integer ?l_law_integer ?c_law_integer ?k_law_integer ?a_law_integers ?l_law_integers ?c_law_integers ?k_law_integers ?a_law_shuffled ?l_law_shuffled ?c_law_shuffled ?k_law_shuffled ?a_law_sent ?l_law_sent ?c_law_sent ?k_law_sent ?a_law_map_over ?l_law_map_over ?c_law_map_over ?k_law_map_over ?a_law_judged ?l_law_judged ?c_law_judged ?k_law_judged ?a_law_is_pairing ?l_law_is_pairing ?c_law_is_pairing ?k_law_is_pairing ?a_law_same_names ?l_law_same_names ?c_law_same_names ?k_law_same_names ?a_law_halves ?l_law_halves ?c_law_halves ?k_law_halves ?a_law_spoilt ?l_law_spoilt ?c_law_spoilt ?k_law_spoilt ?a_law_refused ?l_law_refused ?c_law_refused ?k_law_refused ?m_Pattern ?a_Pattern_init ?l_Pattern_init ?c_Pattern_init ?k_Pattern_init ?i_Pattern_init ?pg_Pattern ?hd_Pattern ?po_Pattern ?sa_Pattern ?mk_Pattern ?kc_Pattern ?na_Pattern_rows ?na_Pattern_group ?na_Pattern_powers ?ha_Pattern ?hn_Pattern ?ht_Pattern ?hm_Pattern ?ne_Pattern ?ob_Pattern ?kt_Pattern_NoneType ?nf_Pattern_NoneType ?kt_Pattern_bool ?nf_Pattern_bool ?kt_Pattern_int ?nf_Pattern_int ?kt_Pattern_str ?nf_Pattern_str ?kt_Pattern_list ?nf_Pattern_list ?kt_Pattern_tuple ?nf_Pattern_tuple ?kt_Pattern_dict ?nf_Pattern_dict ?m_BadPattern ?x_BadPattern ?s_BadPattern ?ga_BadPattern ?gg_BadPattern ?no_BadPattern ?a_BadPattern_init ?l_BadPattern_init ?c_BadPattern_init ?k_BadPattern_init ?t_BadPattern_init ?e_BadPattern ?ty_BadPattern ?kk_BadPattern ?hd_BadPattern ?xm_BadPattern_BadPattern ?a_law ?l_law ?c_law ?k_law
    (case z_len => k_is)
    (case z_list => k_is)
    (case z_tuple => k_is)
    (case z_isinstance => k_is)
    (case z_int => k_is)
    (case z_range => k_is)
    (case z_max => k_is)
    (case z_all => k_is)
    (case z_bool => k_is)
    (case z_dict => k_is)
    (case z_str => k_is)
    (case z_enumerate => k_is)
    (case z_sorted => k_is)
    (case z_zip => k_is)
    (case n_LETTERS_tables => k_is)
    (case n_LETTERS_patterns => k_is)
    (case n_MOST_VALUE => k_is)
    (case n_MOST_ROWS => k_is)
    (case a_is_row => k_is)
    (case l_is_row => k_is)
    (case c_is_row => k_is)
    (case k_is_row => k_is)
    (case a_is_integer => k_is)
    (case l_is_integer => k_is)
    (case c_is_integer => k_is)
    (case k_is_integer => k_is)
    (case a_is_value => k_is)
    (case l_is_value => k_is)
    (case c_is_value => k_is)
    (case k_is_value => k_is)
    (case a_is_name => k_is)
    (case l_is_name => k_is)
    (case c_is_name => k_is)
    (case k_is_name => k_is)
    (case a_checked_rows => k_is)
    (case l_checked_rows => k_is)
    (case c_checked_rows => k_is)
    (case k_checked_rows => k_is)
    (case a_names_in_order => k_is)
    (case l_names_in_order => k_is)
    (case c_names_in_order => k_is)
    (case k_names_in_order => k_is)
    (case a_renamed => k_is)
    (case l_renamed => k_is)
    (case c_renamed => k_is)
    (case k_renamed => k_is)
    (case a_renamed_rows => k_is)
    (case l_renamed_rows => k_is)
    (case c_renamed_rows => k_is)
    (case k_renamed_rows => k_is)
    (case a_is_group => k_is)
    (case l_is_group => k_is)
    (case c_is_group => k_is)
    (case k_is_group => k_is)
    (case a_is_powers => k_is)
    (case l_is_powers => k_is)
    (case c_is_powers => k_is)
    (case k_is_powers => k_is)
    (case a_law_bag => k_is)
    (case l_law_bag => k_is)
    (case c_law_bag => k_is)
    (case k_law_bag => k_is)
    (case a_law_pick => k_is)
    (case l_law_pick => k_is)
    (case c_law_pick => k_is)
    (case k_law_pick => k_is)
    (case a_law_name => k_is)
    (case l_law_name => k_is)
    (case c_law_name => k_is)
    (case k_law_name => k_is)
    (case a_law_value => k_is)
    (case l_law_value => k_is)
    (case c_law_value => k_is)
    (case k_law_value => k_is)
    (case a_law_tables => k_is)
    (case l_law_tables => k_is)
    (case c_law_tables => k_is)
    (case k_law_tables => k_is)
    (case a_law_pool => k_is)
    (case l_law_pool => k_is)
    (case c_law_pool => k_is)
    (case k_law_pool => k_is)
    (case a_law_pattern => k_is)
    (case l_law_pattern => k_is)
    (case c_law_pattern => k_is)
    (case k_law_pattern => k_is)
    (case a_law_due => k_is)
    (case l_law_due => k_is)
    (case c_law_due => k_is)
    (case k_law_due => k_is)
    (case a_law_turned => k_is)
    (case l_law_turned => k_is)
    (case c_law_turned => k_is)
    (case k_law_turned => k_is)
    (case a_bound => k_is)
    (case l_bound => k_is)
    (case c_bound => k_is)
    (case k_bound => k_is)
    (case a_paired => k_is)
    (case l_paired => k_is)
    (case c_paired => k_is)
    (case k_paired => k_is)
    (case a_pairing => k_is)
    (case l_pairing => k_is)
    (case c_pairing => k_is)
    (case k_pairing => k_is)
    (case a_law_integer => k_is)
    (case l_law_integer => k_is)
    (case c_law_integer => k_is)
    (case k_law_integer => k_is)
    (case a_law_integers => k_is)
    (case l_law_integers => k_is)
    (case c_law_integers => k_is)
    (case k_law_integers => k_is)
    (case a_law_shuffled => k_is)
    (case l_law_shuffled => k_is)
    (case c_law_shuffled => k_is)
    (case k_law_shuffled => k_is)
    (case a_law_sent => k_is)
    (case l_law_sent => k_is)
    (case c_law_sent => k_is)
    (case k_law_sent => k_is)
    (case a_law_map_over => k_is)
    (case l_law_map_over => k_is)
    (case c_law_map_over => k_is)
    (case k_law_map_over => k_is)
    (case a_law_judged => k_is)
    (case l_law_judged => k_is)
    (case c_law_judged => k_is)
    (case k_law_judged => k_is)
    (case a_law_is_pairing => k_is)
    (case l_law_is_pairing => k_is)
    (case c_law_is_pairing => k_is)
    (case k_law_is_pairing => k_is)
    (case a_law_same_names => k_is)
    (case l_law_same_names => k_is)
    (case c_law_same_names => k_is)
    (case k_law_same_names => k_is)
    (case a_law_halves => k_is)
    (case l_law_halves => k_is)
    (case c_law_halves => k_is)
    (case k_law_halves => k_is)
    (case a_law_spoilt => k_is)
    (case l_law_spoilt => k_is)
    (case c_law_spoilt => k_is)
    (case k_law_spoilt => k_is)
    (case a_law_refused => k_is)
    (case l_law_refused => k_is)
    (case c_law_refused => k_is)
    (case k_law_refused => k_is)
    (case m_Pattern => k_is)
    (case a_Pattern_init => k_is)
    (case l_Pattern_init => k_is)
    (case c_Pattern_init => k_is)
    (case k_Pattern_init => k_is)
    (case i_Pattern_init => k_is)
    (case pg_Pattern => k_is)
    (case hd_Pattern => k_is)
    (case po_Pattern => k_is)
    (case sa_Pattern => k_is)
    (case mk_Pattern => k_is)
    (case kc_Pattern => k_is)
    (case na_Pattern_rows => k_is)
    (case na_Pattern_group => k_is)
    (case na_Pattern_powers => k_is)
    (case ha_Pattern => k_is)
    (case hn_Pattern => k_is)
    (case ht_Pattern => k_is)
    (case hm_Pattern => k_is)
    (case ne_Pattern => k_is)
    (case ob_Pattern => k_is)
    (case kt_Pattern_NoneType => (first | kit_is | rfl | kernel_rfl))
    (case nf_Pattern_NoneType => k_is)
    (case kt_Pattern_bool => (first | kit_is | rfl | kernel_rfl))
    (case nf_Pattern_bool => k_is)
    (case kt_Pattern_int => (first | kit_is | rfl | kernel_rfl))
    (case nf_Pattern_int => k_is)
    (case kt_Pattern_str => (first | kit_is | rfl | kernel_rfl))
    (case nf_Pattern_str => k_is)
    (case kt_Pattern_list => (first | kit_is | rfl | kernel_rfl))
    (case nf_Pattern_list => k_is)
    (case kt_Pattern_tuple => (first | kit_is | rfl | kernel_rfl))
    (case nf_Pattern_tuple => k_is)
    (case kt_Pattern_dict => (first | kit_is | rfl | kernel_rfl))
    (case nf_Pattern_dict => k_is)
    (case m_BadPattern => k_is)
    (case x_BadPattern => k_is)
    (case s_BadPattern => k_is)
    (case ga_BadPattern => k_is)
    (case gg_BadPattern => k_is)
    (case no_BadPattern => k_is)
    (case a_BadPattern_init => k_is)
    (case l_BadPattern_init => k_is)
    (case c_BadPattern_init => k_is)
    (case k_BadPattern_init => k_is)
    (case t_BadPattern_init => k_is)
    (case e_BadPattern => k_is)
    (case ty_BadPattern => k_is)
    (case kk_BadPattern => k_is)
    (case hd_BadPattern => k_is)
    (case xm_BadPattern_BadPattern => (first | rfl | kernel_rfl))
    (case a_law => k_is)
    (case l_law => k_is)
    (case c_law => k_is)
    (case k_law => k_is)
