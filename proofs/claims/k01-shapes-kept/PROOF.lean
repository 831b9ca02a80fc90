import PyProof.Rows.All
import Wide.All
import OpenK.AllK
import Wide.FinOn
import HandS.ForMost
import HandS.ForExc
import HandS.Codes
import HandS.IsInst
import HandS.Flow
import HandS.Walk
import HandS.Conv
import HandS.EndBits
import KE.GoesEnum
import HandS.ExcInit
import HandS.ExcField
import KE.RegKIsAll
import PySem.Challenge.RW_firstmet_k01_shapes_kept
set_option Elab.async false
set_option linter.all false
set_option maxRecDepth 100000
set_option maxHeartbeats 8000000
/-! Firstmet: short words over the hand layer: a def by its name, heaps that keep what stood, data. -/
namespace Fm
open PySem PySem.Spec PyProof.Rows L2
/-! ### a def of the top, by its name -/
def Dfn (K : PySem.W.Frag) (mg : Str → Option Value) (x : Str) (st : Stmt) (ps : List Str) : Prop :=
  ∃ f fd, Fun K x x st f fd ∧ mg x = some (.ref f) ∧ Binds K fd ps []
def Has (P : Program) (w : World) (K : PySem.W.Frag) (mg : Str → Option Value) (base : Heap) (CX : CXT) (x : Str) (ps : List Str) (k : Nat) (sp : Sp) : Prop :=
  ∃ f fd, FnOk P w K mg base CX k f fd ps sp ∧ mg x = some (.ref f) ∧ PySem.W.keepIn K (.ref f) = true ∧ Binds K fd ps []
section
variable {P : Program} {w : World} {K : PySem.W.Frag} {mg : Str → Option Value} {base : Heap}
theorem Dfn.has {x : Str} {st : Stmt} {N ps : List Str} {k : Nat} {sp : Sp} (D : Dfn K mg x st ps) (S : FnScope N ps (defScope st)) (len : ∀ vs H Q E, sp vs H Q E → vs.length = ps.length)
    (body : ∀ (f : Addr) (cdv : Value) (A : Around) (outer : List Env) (s : Shared) (H : Hp) (vs : List V) (Q : VK) (E : XK), Room k (A.deeper (envOfC x (defScope st) s.heap.objs.size f cdv)) → sp vs H Q E →
      ∃ t, PSs (cxOf CX0 P w K mg base N x (defScope st) f cdv A outer s H E).nox (defBody st) t ∧ t { nx := fun _ H' => Q .non H', rt := Q } (start N vs) H) :
    Has P w K mg base CX0 x ps (k + 1) sp := by
  obtain ⟨f, fd, F, g, b⟩ := D
  exact ⟨f, fd, F.ok S len (fun cdv A outer s H vs Q E => body f cdv A outer s H vs Q E), g, F.kp, b⟩
theorem Dfn.hasX {x : Str} {st : Stmt} {N ps : List Str} {k : Nat} {sp : Sp} (D : Dfn K mg x st ps) (S : FnScope N ps (defScope st)) (len : ∀ vs H Q E, sp vs H Q E → vs.length = ps.length)
    (body : ∀ (f : Addr) (cdv : Value) (A : Around) (outer : List Env) (s : Shared) (H : Hp) (vs : List V) (Q : VK) (E : XK), Room k (A.deeper (envOfC x (defScope st) s.heap.objs.size f cdv)) → sp vs H Q E →
      ∃ t, PSs (cxOf (L2.CX P w) P w K mg base N x (defScope st) f cdv A outer s H E) (defBody st) t ∧ t { nx := fun _ H' => Q .non H', rt := Q } (start N vs) H) :
    Has P w K mg base (L2.CX P w) x ps (k + 1) sp := by
  obtain ⟨f, fd, F, g, b⟩ := D
  exact ⟨f, fd, F.okX S len (fun cdv A outer s H vs Q E => body f cdv A outer s H vs Q E), g, F.kp, b⟩
theorem Has.mono {CX : CXT} {x : Str} {ps : List Str} {j k : Nat} {sp : Sp} (h : Has P w K mg base CX x ps j sp) (hj : j ≤ k) : Has P w K mg base CX x ps k sp := by
  obtain ⟨f, fd, F, r⟩ := h
  exact ⟨f, fd, F.mono hj, r⟩
theorem Has.imp {CX : CXT} {x : Str} {ps : List Str} {k : Nat} {sp sp' : Sp} (h : Has P w K mg base CX x ps k sp) (i : ∀ vs H Q E, sp' vs H Q E → sp vs H Q E) : Has P w K mg base CX x ps k sp' := by
  obtain ⟨f, fd, F, r⟩ := h
  exact ⟨f, fd, F.imp i, r⟩
end
/-- f(e, ..), f a def that raises nothing -/
theorem pe_has {X : Cx} {k : Nat} {x : Str} {ps : List Str} {sp : Sp} {e : Expr} {es : List Expr} {t : TA} {p pos : Pos} (h : Has X.prog X.w X.K X.mg X.base CX0 x ps k sp) (hr : Room k X.A) (ha : PA X (e :: es) t) (hg : Gl X x := by rfl)
    (hdb : (x == ("__debug__" : Str)) = false := by decide) (he : starEach (e :: es) X.env = (false, eval e X.env) :: starEach es X.env := by rfl) (hpl : (backTo pos (starEach es X.env)).any (·.1) = false := by rfl) :
    PE X (.Call (.Name x p) (e :: es) [] pos) (tCall sp [] E0 t) := by
  obtain ⟨f, fd, F, g, kp, b⟩ := h
  exact pe_call F hr hg g kp b .nil pass0 ha hdb he hpl
/-! ### heaps -/
/-- all that stood stands, but for what is at ms; tuples stand in any case -/
structure Kp (ms : List Addr) (H H' : Hp) : Prop where
  at_ : ∀ a o, H a = some o → a ∉ ms → H' a = some o
  tp : ∀ a xs, H a = some (.tup xs) → H' a = some (.tup xs)
theorem Kp.refl {ms : List Addr} (H : Hp) : Kp ms H H := ⟨fun _ _ h _ => h, fun _ _ h => h⟩
theorem Kp.trans {ms : List Addr} {H H1 H2 : Hp} (a : Kp ms H H1) (b : Kp ms H1 H2) : Kp ms H H2 := ⟨fun c o h n => b.at_ c o (a.at_ c o h n) n, fun c xs h => b.tp c xs (a.tp c xs h)⟩
theorem Kp.mono {ms ms' : List Addr} {H H' : Hp} (a : Kp ms H H') (h : ∀ x ∈ ms, x ∈ ms') : Kp ms' H H' := ⟨fun c o e n => a.at_ c o e fun z => n (h c z), a.tp⟩
theorem Kp.zero {ms : List Addr} {H H' : Hp} (a : Kp [] H H') : Kp ms H H' := a.mono fun _ h => nomatch h
theorem Kp.same {H H' : Hp} (a : Kp [] H H') : Same H H' := fun b o e => a.at_ b o e (fun z => nomatch z)
theorem Kp.new {ms : List Addr} {H : Hp} {p : Addr} {o : HO} (h : H p = none) : Kp ms H (upd H p o) :=
  ⟨fun _ _ e _ => (upd_ne (ne_of_none e h)).trans e, fun _ _ e => (upd_ne (ne_of_none e h)).trans e⟩
theorem Kp.snoc {ms : List Addr} {H H' : Hp} {p : Addr} {o : HO} (a : Kp ms H H') (h : H' p = none) : Kp ms H (upd H' p o) := a.trans (Kp.new h)
theorem Kp.late {ms : List Addr} {H H' : Hp} {p : Addr} {o : HO} (a : Kp ms H H') (h : H p = none) : Kp ms H (L2.upd H' p o) :=
  ⟨fun b u e n => (upd_ne (ne_of_none e h)).trans (a.at_ b u e n), fun b xs e => (upd_ne (ne_of_none e h)).trans (a.tp b xs e)⟩
theorem Kp.set {ms : List Addr} {H : Hp} {p : Addr} {o o' : HO} (e : H p = some o) (hn : ∀ xs, o ≠ .tup xs) (hm : p ∈ ms) : Kp ms H (upd H p o') :=
  ⟨fun b u h n => (upd_ne (fun z => n (by rw [z]; exact hm))).trans h, fun b xs h => (upd_ne (fun z => by rw [z, e] at h; exact hn xs (Option.some.inj h))).trans h⟩
theorem Kp.updL {ms : List Addr} {H : Hp} {p : Addr} {ys : List V} {o' : HO} (e : H p = some (.lst ys)) (hm : p ∈ ms) : Kp ms H (L2.upd H p o') := Kp.set e (fun _ z => by cases z) hm
theorem Kp.free {ms : List Addr} {H H' : Hp} {p : Addr} (a : Kp ms H H') (h : H' p = Option.none) (hm : ∀ x ∈ ms, ∃ o, H' x = some o) : H p = Option.none := by
  cases e : H p with
  | none => rfl
  | some o =>
    by_cases z : p ∈ ms
    · obtain ⟨o', h'⟩ := hm p z
      rw [h'] at h
      cases h
    · rw [a.at_ p o e z] at h
      cases h
theorem upd_upd {H : Hp} {a : Addr} {o o' : HO} : upd (upd H a o) a o' = upd H a o' := by
  funext b
  by_cases z : b = a
  · rw [z, upd_same, upd_same]
  · rw [upd_ne z, upd_ne z, upd_ne z]
theorem upd_comm {H : Hp} {a b : Addr} {o u : HO} (n : a ≠ b) : upd (upd H a o) b u = upd (upd H b u) a o := by
  funext c
  by_cases z : c = a
  · rw [z, upd_ne n, upd_same, upd_same]
  · by_cases y : c = b
    · rw [y, upd_same, upd_ne (Ne.symm n), upd_same]
    · rw [upd_ne y, upd_ne z, upd_ne z, upd_ne y]
/-! ### names of the built-ins -/
structure Bi (mg : Str → Option Value) : Prop where
  len : mg "len" = none
  list : mg "list" = none
  tuple : mg "tuple" = none
  isinstance : mg "isinstance" = none
  int : mg "int" = none
  range : mg "range" = none
  max : mg "max" = none
  all : mg "all" = none
  bool : mg "bool" = none
  dict : mg "dict" = none
  str : mg "str" = none
  enumerate : mg "enumerate" = none
/-! ### the bag of draws -/
structure Bag (H : Hp) (b c : Addr) : Prop where
  bg : ∃ i z m n k : Int, H b = some (.lst [.ref c, .int i, .int z, .int m, .int n, .int k]) ∧ 0 ≤ i ∧ 0 ≤ z
  cl : ∃ cs : List Int, H c = some (.lst (cs.map V.int)) ∧ cs.length ≤ 63
theorem Bag.ne {H : Hp} {b c : Addr} (B : Bag H b c) : c ≠ b := fun z => by
  obtain ⟨⟨i, z', m, n, k, h, _⟩, ⟨cs, h2, _⟩⟩ := B
  rw [z, h] at h2
  cases cs with
  | nil => cases h2
  | cons x r => cases h2
theorem Bag.keep {H H' : Hp} {b c : Addr} {ms : List Addr} (B : Bag H b c) (k : Kp ms H H') (hb : b ∉ ms) (hc : c ∉ ms) : Bag H' b c := by
  obtain ⟨⟨i, z', m, n, k', h, hi⟩, ⟨cs, h2, hl⟩⟩ := B
  exact ⟨⟨i, z', m, n, k', k.at_ _ _ h hb, hi⟩, ⟨cs, k.at_ _ _ h2 hc, hl⟩⟩
theorem Bag.keep0 {H H' : Hp} {b c : Addr} (B : Bag H b c) (k : Kp [] H H') : Bag H' b c := B.keep k (fun z => nomatch z) (fun z => nomatch z)
theorem Bag.someB {H : Hp} {b c : Addr} (B : Bag H b c) : ∃ o, H b = some o := let ⟨_, _, _, _, _, h, _⟩ := B.bg; ⟨_, h⟩
theorem Bag.someC {H : Hp} {b c : Addr} (B : Bag H b c) : ∃ o, H c = some o := let ⟨_, h, _⟩ := B.cl; ⟨_, h⟩
theorem Kp.freeB {H H' : Hp} {b c p : Addr} (a : Kp [b] H H') (B : Bag H' b c) (h : H' p = Option.none) : H p = Option.none :=
  a.free h fun x hx => by
    have e : x = b := by simpa using hx
    rw [e]; exact B.someB
end Fm

namespace Fm
open PySem PySem.Spec PyProof.Rows L2
def topS (i : Nat) : Stmt := PySem.Challenge.pw_firstmet_k01_shapes_kept.main.body.getD i (.Pass ⟨0, 0, 0, 0⟩)
abbrev s_BadShape_init : Stmt := inClass (topS 2) 0
abbrev N_BadShape_init : List Str := ["self", "at"]
theorem sc_BadShape_init : FnScope ["self", "at"] ["self", "at"] (defScope s_BadShape_init) := ⟨rfl, rfl, rfl, by decide +kernel, rfl, by decide +kernel, by decide +kernel⟩
abbrev s_BadName_init : Stmt := inClass (topS 3) 0
abbrev N_BadName_init : List Str := ["self", "value"]
theorem sc_BadName_init : FnScope ["self", "value"] ["self", "value"] (defScope s_BadName_init) := ⟨rfl, rfl, rfl, by decide +kernel, rfl, by decide +kernel, by decide +kernel⟩
abbrev s_is_row : Stmt := topS 6
abbrev N_is_row : List Str := ["thing"]
theorem sc_is_row : FnScope ["thing"] ["thing"] (defScope s_is_row) := ⟨rfl, rfl, rfl, by decide +kernel, rfl, by decide +kernel, by decide +kernel⟩
abbrev s_is_name : Stmt := topS 7
abbrev N_is_name : List Str := ["thing", "letter"]
theorem sc_is_name : FnScope ["thing", "letter"] ["thing"] (defScope s_is_name) := ⟨rfl, rfl, rfl, by decide +kernel, rfl, by decide +kernel, by decide +kernel⟩
abbrev s_are_names : Stmt := topS 8
abbrev N_are_names : List Str := ["thing", "least", "most", "at", "name"]
theorem sc_are_names : FnScope ["thing", "least", "most", "at", "name"] ["thing", "least", "most"] (defScope s_are_names) := ⟨rfl, rfl, rfl, by decide +kernel, rfl, by decide +kernel, by decide +kernel⟩
abbrev s_is_table : Stmt := topS 9
abbrev N_is_table : List Str := ["thing"]
theorem sc_is_table : FnScope ["thing"] ["thing"] (defScope s_is_table) := ⟨rfl, rfl, rfl, by decide +kernel, rfl, by decide +kernel, by decide +kernel⟩
abbrev s_Shape_init : Stmt := inClass (topS 10) 0
abbrev N_Shape_init : List Str := ["self", "tables", "names", "made", "at", "table"]
theorem sc_Shape_init : FnScope ["self", "tables", "names", "made", "at", "table"] ["self", "tables"] (defScope s_Shape_init) := ⟨rfl, rfl, rfl, by decide +kernel, rfl, by decide +kernel, by decide +kernel⟩
abbrev s_Shape_eq : Stmt := inClass (topS 10) 1
abbrev N_Shape_eq : List Str := ["self", "other"]
theorem sc_Shape_eq : FnScope ["self", "other"] ["self", "other"] (defScope s_Shape_eq) := ⟨rfl, rfl, rfl, by decide +kernel, rfl, by decide +kernel, by decide +kernel⟩
abbrev s_Shape_fields_of : Stmt := inClass (topS 10) 2
abbrev N_Shape_fields_of : List Str := ["self", "name", "table", "fields"]
theorem sc_Shape_fields_of : FnScope ["self", "name", "table", "fields"] ["self", "name"] (defScope s_Shape_fields_of) := ⟨rfl, rfl, rfl, by decide +kernel, rfl, by decide +kernel, by decide +kernel⟩
abbrev s__law_bag : Stmt := topS 12
abbrev N__law_bag : List Str := ["_law_script"]
theorem sc__law_bag : FnScope ["_law_script"] ["_law_script"] (defScope s__law_bag) := ⟨rfl, rfl, rfl, by decide +kernel, rfl, by decide +kernel, by decide +kernel⟩
abbrev s__law_pick : Stmt := topS 13
abbrev N__law_pick : List Str := ["_law_bag_here", "_law_many", "_law_cell", "_law_found", "_law_one"]
theorem sc__law_pick : FnScope ["_law_bag_here", "_law_many", "_law_cell", "_law_found", "_law_one"] ["_law_bag_here", "_law_many"] (defScope s__law_pick) := ⟨rfl, rfl, rfl, by decide +kernel, rfl, by decide +kernel, by decide +kernel⟩
abbrev s__law_name : Stmt := topS 14
abbrev N__law_name : List Str := ["_law_bag_here", "_law_taken", "_law_letters", "_law_word", "_law_stem", "_law_k"]
theorem sc__law_name : FnScope ["_law_bag_here", "_law_taken", "_law_letters", "_law_word", "_law_stem", "_law_k"] ["_law_bag_here", "_law_taken"] (defScope s__law_name) := ⟨rfl, rfl, rfl, by decide +kernel, rfl, by decide +kernel, by decide +kernel⟩
abbrev s__law_tables : Stmt := topS 15
abbrev N__law_tables : List Str := ["_law_bag_here", "_law_taken", "_law_tables_here", "_law_k", "_law_name_here", "_law_fields", "_law_j"]
theorem sc__law_tables : FnScope ["_law_bag_here", "_law_taken", "_law_tables_here", "_law_k", "_law_name_here", "_law_fields", "_law_j"] ["_law_bag_here"] (defScope s__law_tables) := ⟨rfl, rfl, rfl, by decide +kernel, rfl, by decide +kernel, by decide +kernel⟩
abbrev s__law_copied : Stmt := topS 16
abbrev N__law_copied : List Str := ["_law_thing", "_law_found", "_law_key", "_law_part"]
theorem sc__law_copied : FnScope ["_law_thing", "_law_found", "_law_key", "_law_part"] ["_law_thing"] (defScope s__law_copied) := ⟨rfl, rfl, rfl, by decide +kernel, rfl, by decide +kernel, by decide +kernel⟩
abbrev s__law_alike : Stmt := topS 17
abbrev N__law_alike : List Str := ["_law_one", "_law_other", "_law_k", "_law_key"]
theorem sc__law_alike : FnScope ["_law_one", "_law_other", "_law_k", "_law_key"] ["_law_one", "_law_other"] (defScope s__law_alike) := ⟨rfl, rfl, rfl, by decide +kernel, rfl, by decide +kernel, by decide +kernel⟩
abbrev s__law_odd : Stmt := topS 18
abbrev N__law_odd : List Str := ["_law_bag_here", "_law_number", "_law_odd_here"]
theorem sc__law_odd : FnScope ["_law_bag_here", "_law_number", "_law_odd_here"] ["_law_bag_here"] (defScope s__law_odd) := ⟨rfl, rfl, rfl, by decide +kernel, rfl, by decide +kernel, by decide +kernel⟩
abbrev s__law_handed : Stmt := topS 19
abbrev N__law_handed : List Str := ["_law_bag_here", "_law_tables_here", "_law_handed_here", "_law_name_here", "_law_fields"]
theorem sc__law_handed : FnScope ["_law_bag_here", "_law_tables_here", "_law_handed_here", "_law_name_here", "_law_fields"] ["_law_bag_here", "_law_tables_here"] (defScope s__law_handed) := ⟨rfl, rfl, rfl, by decide +kernel, rfl, by decide +kernel, by decide +kernel⟩
abbrev s__law_tells : Stmt := topS 20
abbrev N__law_tells : List Str := ["_law_shape", "_law_tables_here", "_law_due", "_law_table"]
theorem sc__law_tells : FnScope ["_law_shape", "_law_tables_here", "_law_due", "_law_table"] ["_law_shape", "_law_tables_here"] (defScope s__law_tells) := ⟨rfl, rfl, rfl, by decide +kernel, rfl, by decide +kernel, by decide +kernel⟩
abbrev s__law_changed : Stmt := topS 21
abbrev N__law_changed : List Str := ["_law_bag_here", "_law_tables_here", "_law_at", "_law_name_here", "_law_fields", "_law_choice", "_law_taken", "_law_table"]
theorem sc__law_changed : FnScope ["_law_bag_here", "_law_tables_here", "_law_at", "_law_name_here", "_law_fields", "_law_choice", "_law_taken", "_law_table"] ["_law_bag_here", "_law_tables_here"] (defScope s__law_changed) := ⟨rfl, rfl, rfl, by decide +kernel, rfl, by decide +kernel, by decide +kernel⟩
abbrev s_law : Stmt := topS 22
abbrev N_law : List Str := ["_law_script", "_law_bag_here", "_law_tables_here", "_law_handed_here", "_law_kept", "_law_shape", "_law_part", "_law_twin", "_law_other", "_law_same"]
theorem sc_law : FnScope ["_law_script", "_law_bag_here", "_law_tables_here", "_law_handed_here", "_law_kept", "_law_shape", "_law_part", "_law_twin", "_law_other", "_law_same"] ["_law_script"] (defScope s_law) := ⟨rfl, rfl, rfl, by decide +kernel, rfl, by decide +kernel, by decide +kernel⟩
end Fm

namespace Fm
open PySem PySem.Spec PyProof.Rows L2
/-! ### bag and pick -/
def spBag (K : PySem.W.Frag) : Sp := fun vs H Q _ => ∃ (a : Addr) (ns : List Int), vs = [.ref a] ∧ SqL K H a (ns.map V.int) ∧
  ∀ b c H', Kp [] H H' → H b = none → H c = none → Bag H' b c → Q (.ref b) H'
def spPick : Sp := fun vs H Q _ => ∃ (b c : Addr) (many : Int), vs = [.ref b, .int many] ∧ Bag H b c ∧ 0 < many ∧ many < 1073741824 ∧
  ∀ (r : Int) (H' : Hp), 0 ≤ r → r < many → Bag H' b c → Kp [b] H H' → Q (.int r) H'
section
variable {P : Program} {w : World} {K : PySem.W.Frag} {mg : Str → Option Value} {base : Heap}
theorem ok_bag (B : Bi mg) (D : Dfn K mg "_law_bag" s__law_bag ["_law_script"]) : Has P w K mg base CX0 "_law_bag" ["_law_script"] 1 (spBag K) := by
  refine D.has sc__law_bag (fun vs H Q E h => ?_) (fun f cdv A outer s H vs Q E hr h => ?_)
  · obtain ⟨a, ns, rfl, _⟩ := h; rfl
  · obtain ⟨a, ns, rfl, hS, k⟩ := h
    refine ⟨_, pss_one (ps_ret (pe_lst (pa_cons (pe_callTy call_list_of (by rfl) B.list (by decide +kernel) (pa_cons (pe_slice sl_list (pv 0) po_none (po_some pe_int)) pa_nil)) (pa_cons pe_int (pa_cons pe_int (pa_cons pe_int (pa_cons pe_int (pa_cons pe_int pa_nil)))))))), ?_⟩
    refine ⟨_, rfl, 63, rfl, a, _, rfl, hS, fun p np => ?_⟩
    refine ⟨p, _, rfl, .inl (SqL.of upd_same), fun c nc => ?_⟩
    refine ⟨by show 6 ≤ sizeLine; decide, fun b nb => ?_⟩
    obtain ⟨cs, e, hl⟩ : ∃ cs : List Int, cutV (ns.map V.int) none (some 63) = cs.map V.int ∧ cs.length ≤ 63 := by
      refine ⟨ns.take (min 63 ns.length), ?_, ?_⟩
      · have e1 : HT.sIx (ns.map V.int).length (ns.map V.int).length (some 63) = min 63 (ns.map V.int).length := HT.sIx_nat _ _ 63
        unfold cutV
        rw [e1, HT.sIx_none, List.drop_zero, Nat.sub_zero, List.length_map, List.map_take]
      · rw [List.length_take]; omega
    have n1 : H c = none := by
      have := nc
      by_cases z : c = p
      · rw [z]; exact np
      · rw [upd_ne z] at nc; exact nc
    have cb : c ≠ b := fun z => by rw [← z, upd_same] at nb; cases nb
    refine k b c _ (((Kp.new np).snoc nc).snoc nb) ?_ n1 ⟨⟨0, 0, 0, 0, 0, upd_same, by decide, by decide⟩, ⟨cs, ?_, hl⟩⟩
    · by_cases z : b = c
      · rw [z]; exact n1
      · rw [upd_ne z] at nb
        by_cases y : b = p
        · rw [y]; exact np
        · rw [upd_ne y] at nb; exact nb
    · rw [upd_ne cb, upd_same, e]
theorem emod_lt' {a n : Int} (h : 0 < n) : a % n < n := Int.emod_lt_of_pos a h
theorem ok_pick (B : Bi mg) (D : Dfn K mg "_law_pick" s__law_pick ["_law_bag_here", "_law_many"]) : Has P w K mg base CX0 "_law_pick" ["_law_bag_here", "_law_many"] 1 spPick := by
  refine D.has sc__law_pick (fun vs H Q E h => ?_) (fun f cdv A outer s H vs Q E hr h => ?_)
  · obtain ⟨b, c, m, rfl, _⟩ := h; rfl
  · obtain ⟨b, c, many, rfl, BG, m0, m1, k⟩ := h
    obtain ⟨⟨i, z, m, n, q, hb, hi, hz⟩, ⟨cs, hc, hl⟩⟩ := id BG
    have ncb := BG.ne
    have hu := hu_of hr
    refine ⟨_, (pss_cons (ps_asg (pe_op op_add (pe_ix ix_list (pv 0) pe_int (fun _ _ => rfl)) pe_int) (pg_sub (pv 0) pe_int set_list))
  (C8.pss_cut (ps_if (PW.pt (pw_and (pt_cmpR op_eq (pe_ix ix_list (pv 0) pe_int (fun _ _ => rfl)) pe_int (nomark _)) (pw_and (pt_cmpR op_eq (pe_ix ix_list (pv 0) pe_int (fun _ _ => rfl)) pe_int (nomark _)) (pw_and1 (pt_cmpR op_lt (pe_ix ix_list (pv 0) pe_int (fun _ _ => rfl)) (pe_callB call_len (by rfl) B.len PySem.boot_len (pa_cons (pe_ix ix_list (pv 0) pe_int (fun _ _ => rfl)) pa_nil)) (nomark _))))))
  (pss_cons (ps_set (i := 2) sc__law_pick.nd rfl (Or.inl rfl) (pe_ix ix_list (pe_ix ix_list (pv 0) pe_int (fun _ _ => rfl)) (pe_ix ix_list (pv 0) pe_int (fun _ _ => rfl)) (fun _ _ => rfl)))
  (pss_cons (ps_asg (pe_op op_add (pe_ix ix_list (pv 0) pe_int (fun _ _ => rfl)) pe_int) (pg_sub (pv 0) pe_int set_list))
  (pss_one (ps_if (pt_cmpR op_ge (pv 2) (pe_op op_pow pe_int pe_int) (nomark _))
  (pss_one (ps_asg (pv 2) (pg_sub (pv 0) pe_int set_list)))
  (pss_cons (ps_asg (pe_op op_mod (pe_callTy call_int1 (by rfl) B.int (by decide +kernel) (pa_cons (pe_op op_add (pe_op op_add (pe_op op_mul (pe_ix ix_list (pv 0) pe_int (fun _ _ => rfl)) pe_int) (pv 2)) pe_int) pa_nil)) pe_int) (pg_sub (pv 0) pe_int set_list))
  (pss_one (ps_asg pe_int (pg_sub (pv 0) pe_int set_list))))))))
  pss_nil)
  (C8.pss_cut (ps_if (pt_cmpR op_gt (pe_ix ix_list (pv 0) pe_int (fun _ _ => rfl)) pe_int (nomark _))
  (pss_cons (ps_set (i := 3) sc__law_pick.nd rfl (Or.inl rfl) (pe_op op_mod (pe_callTy call_int1 (by rfl) B.int (by decide +kernel) (pa_cons (pe_ix ix_list (pv 0) pe_int (fun _ _ => rfl)) pa_nil)) (pv 1)))
  (pss_cons (ps_asg (pe_op op_fdiv (pe_ix ix_list (pv 0) pe_int (fun _ _ => rfl)) (pv 1)) (pg_sub (pv 0) pe_int set_list))
  (pss_one (ps_ret (pv 3)))))
  pss_nil)
  (pss_cons (ps_asg (pe_callB (call_max2 rfl) (by rfl) B.max (by decide +kernel) (pa_cons pe_int (pa_cons (pe_op op_sub (pe_ix ix_list (pv 0) pe_int (fun _ _ => rfl)) pe_int) pa_nil))) (pg_sub (pv 0) pe_int set_list))
  (pss_cons (ps_set (i := 4) sc__law_pick.nd rfl (Or.inl rfl) (pe_op op_mod (pe_callTy call_int1 (by rfl) B.int (by decide +kernel) (pa_cons (pe_op op_mul (pe_op op_add (pe_op op_add (pe_ix ix_list (pv 0) pe_int (fun _ _ => rfl)) (pe_op op_mul pe_int (pe_ix ix_list (pv 0) pe_int (fun _ _ => rfl)))) pe_int) pe_int) pa_nil)) pe_int))
  (pss_cons (ps_set (i := 4) sc__law_pick.nd rfl (Or.inl rfl) (pe_op op_mod (pe_callTy call_int1 (by rfl) B.int (by decide +kernel) (pa_cons (pe_op op_mul (pv 4) (pe_op op_add (pe_op op_fdiv (pv 4) pe_int) pe_int)) pa_nil)) pe_int))
  (pss_cons (ps_set (i := 4) sc__law_pick.nd rfl (Or.inl rfl) (pe_op op_mod (pe_callTy call_int1 (by rfl) B.int (by decide +kernel) (pa_cons (pe_op op_mul (pv 4) (pe_op op_add (pe_op op_fdiv (pv 4) pe_int) pe_int)) pa_nil)) pe_int))
  (pss_one (ps_ret (pe_op op_mod (pe_callTy call_int1 (by rfl) B.int (by decide +kernel) (pa_cons (pe_op op_fdiv (pv 4) pe_int) pa_nil)) (pv 1))))))))))), ?_⟩
    -- bag[4] = bag[4] + 1
    refine ⟨_, rfl, b, _, _, _, rfl, rfl, SqL.of hb, rfl, _, _, rfl, rfl, _, rfl, b, _, _, _, rfl, rfl, hb, rfl, ?_⟩
    -- the join behind the first if
    refine ⟨fun σ H' => ∃ (i z m n q : Int) (v : Option V), σ = [some (.ref b), some (.int many), v, none, none] ∧ 0 ≤ i ∧ 0 ≤ z ∧ H' = upd H b (.lst [.ref c, .int i, .int z, .int m, .int n, .int q]), ?_, ?_⟩
    · have h1 : ∀ L, (upd H b L) b = some L := fun L => upd_same
      have hcc : ∀ L, (upd H b L) c = some (.lst (cs.map V.int)) := fun L => by rw [upd_ne ncb]; exact hc
      have fin : ∀ (n : Int), ∃ (i' z' m' n' q' : Int) (v : Option V), ([some (.ref b), some (.int many), none, none, none] : L2.St) = [some (.ref b), some (.int many), v, none, none] ∧ 0 ≤ i' ∧ 0 ≤ z' ∧ upd H b (.lst [.ref c, .int i, .int z, .int m, .int n, .int q]) = upd H b (.lst [.ref c, .int i', .int z', .int m', .int n', .int q']) := fun n => ⟨i, z, m, n, q, none, rfl, hi, hz, rfl⟩
      refine ⟨_, rfl, b, _, _, _, rfl, rfl, SqL.of upd_same, rfl, rfl, _, rfl, ?_⟩
      refine ite2 (fun hz0 => ?_) (fun _ => fin _)
      refine ⟨_, rfl, b, _, _, _, rfl, rfl, SqL.of upd_same, rfl, rfl, _, rfl, ?_⟩
      refine ite2 (fun hq0 => ?_) (fun _ => fin _)
      refine ⟨_, rfl, b, _, _, _, rfl, rfl, SqL.of upd_same, rfl, _, rfl, b, _, _, _, rfl, rfl, SqL.of upd_same, rfl, _, _, rfl, .inl ⟨_, SqL.of (hcc _), rfl⟩, _, _, rfl, rfl, _, rfl, ?_⟩
      refine ite2 (fun hlt => ?_) (fun _ => fin _)
      rw [List.length_map] at hlt
      have hlt' : i < (cs.length : Int) := of_decide_eq_true hlt
      obtain ⟨y, hy⟩ : ∃ y, cs[i.toNat]? = some y := ⟨cs[i.toNat]'(by omega), List.getElem?_eq_getElem (by omega)⟩
      have hat : atI (cs.map V.int) i = some (V.int y) := by
        unfold atI ixN
        rw [List.length_map, if_pos hi, if_pos hlt']
        simp [hy]
      -- cell = bag[0][bag[1]]; bag[1] = bag[1] + 1
      refine ⟨_, rfl, b, _, _, _, rfl, rfl, SqL.of upd_same, rfl, _, rfl, b, _, _, _, rfl, rfl, SqL.of upd_same, rfl, c, _, _, _, rfl, rfl, SqL.of (hcc _), hat, ?_⟩
      refine ⟨_, rfl, b, _, _, _, rfl, rfl, SqL.of upd_same, rfl, _, _, rfl, rfl, _, rfl, b, _, _, _, rfl, rfl, upd_same, rfl, ?_⟩
      refine ⟨_, rfl, _, _, rfl, rfl, ⟨by decide, by decide, by decide⟩, _, _, rfl, rfl, _, rfl, ?_⟩
      refine ite2 (fun hbig => ?_) (fun _ => ?_)
      · refine ⟨_, rfl, _, rfl, b, _, _, _, rfl, rfl, upd_same, rfl, ?_⟩
        have hy0 : 0 ≤ y := by
          have := of_decide_eq_true hbig
          have e : (10 : Int) ^ (18 : Int).toNat = 1000000000000000000 := by decide
          rw [e] at this
          omega
        refine ⟨i + 1, y, m, n + 1, q, _, rfl, by omega, hy0, ?_⟩
        rw [upd_upd, upd_upd]
        rfl
      · refine ⟨_, rfl, b, _, _, _, rfl, rfl, SqL.of upd_same, rfl, _, _, rfl, rfl, .inr ⟨by decide, by decide⟩, _, rfl, _, _, rfl, rfl, _, _, rfl, rfl, .inl ⟨_, rfl, _, _, rfl, rfl, (by show (0 : Int) < 2147483647; decide), _, rfl, b, _, _, _, rfl, rfl, upd_same, rfl, ?_⟩⟩
        refine ⟨_, rfl, b, _, _, _, rfl, rfl, upd_same, rfl, ?_⟩
        refine ⟨i + 1, z, (m * 69621 + y + 12345) % 2147483647, n + 1, 6, _, rfl, by omega, hz, ?_⟩
        rw [upd_upd, upd_upd, upd_upd]
        rfl
    · clear hb hz hi hl
      rintro σ' H' ⟨i, z, m, n, q, v, rfl, hi, hz, rfl⟩
      have h1 : ∀ L, (upd H b L) b = some L := fun L => upd_same
      have kp : ∀ L, Kp [b] H (upd H b L) := fun L => by
        obtain ⟨_, _, _, _, _, hb, _⟩ := BG.bg
        exact Kp.updL hb (by simp)
      have bag : ∀ i z m n q : Int, 0 ≤ i → 0 ≤ z → Bag (upd H b (.lst [.ref c, .int i, .int z, .int m, .int n, .int q])) b c := fun i z m n q hi hz => by
        obtain ⟨cs, hc, hl⟩ := BG.cl
        exact ⟨⟨i, z, m, n, q, upd_same, hi, hz⟩, ⟨cs, by rw [upd_ne ncb]; exact hc, hl⟩⟩
      refine ⟨fun σ H' => σ = [some (.ref b), some (.int many), v, none, none] ∧ H' = upd H b (.lst [.ref c, .int i, .int z, .int m, .int n, .int q]), ?_, ?_⟩
      · refine ⟨_, rfl, b, _, _, _, rfl, rfl, SqL.of upd_same, rfl, _, _, rfl, rfl, _, rfl, ?_⟩
        refine ite2 (fun _ => ?_) (fun _ => ⟨rfl, rfl⟩)
        refine ⟨_, rfl, b, _, _, _, rfl, rfl, SqL.of upd_same, rfl, .inl ⟨_, rfl, _, rfl, _, _, rfl, rfl, m0, ?_⟩⟩
        refine ⟨_, rfl, b, _, _, _, rfl, rfl, SqL.of upd_same, rfl, _, rfl, _, _, rfl, rfl, ⟨m0, m1⟩, _, rfl, b, _, _, _, rfl, rfl, upd_same, rfl, ?_⟩
        refine ⟨_, rfl, ?_⟩
        rw [upd_upd]
        exact k _ _ (Int.emod_nonneg _ (by omega)) (Int.emod_lt_of_pos _ m0) (bag _ _ _ _ _ hi (Int.ediv_nonneg hz (by omega))) (kp _)
      · rintro σ' H' ⟨rfl, rfl⟩
        refine ⟨_, rfl, b, _, _, _, rfl, rfl, SqL.of upd_same, rfl, _, _, rfl, rfl, _, _, rfl, _, rfl, b, _, _, _, rfl, rfl, upd_same, rfl, ?_⟩
        rw [upd_upd]
        refine ⟨_, rfl, b, _, _, _, rfl, rfl, SqL.of upd_same, rfl, _, rfl, b, _, _, _, rfl, rfl, SqL.of upd_same, rfl, _, _, rfl, rfl, .inl ⟨by decide, by decide⟩, _, _, rfl, rfl, _, _, rfl, rfl, _, _, rfl, rfl, .inr ⟨by decide, by decide⟩, .inl ⟨_, rfl, _, _, rfl, rfl, (by show (0 : Int) < 2147483647; decide), ?_⟩⟩
        generalize hx : ((m + 7919 * n + 1) * 48271) % 2147483647 = x
        have x0 : 0 ≤ x := hx ▸ Int.emod_nonneg _ (by decide)
        have x1 : x < 2147483647 := hx ▸ Int.emod_lt_of_pos _ (by decide)
        refine ⟨_, rfl, _, rfl, _, _, rfl, rfl, ⟨by decide, by decide⟩, _, _, rfl, rfl, _, _, rfl, rfl, .inl ⟨by omega, by omega⟩, .inl ⟨_, rfl, _, _, rfl, rfl, (by show (0 : Int) < 2147483647; decide), ?_⟩⟩
        generalize hy : (x * (x / 1009 + 69621)) % 2147483647 = y
        have y0 : 0 ≤ y := hy ▸ Int.emod_nonneg _ (by decide)
        have y1 : y < 2147483647 := hy ▸ Int.emod_lt_of_pos _ (by decide)
        refine ⟨_, rfl, _, rfl, _, _, rfl, rfl, ⟨by decide, by decide⟩, _, _, rfl, rfl, _, _, rfl, rfl, .inl ⟨by omega, by omega⟩, .inl ⟨_, rfl, _, _, rfl, rfl, (by show (0 : Int) < 2147483399; decide), ?_⟩⟩
        refine ⟨_, rfl, _, _, rfl, rfl, ⟨by decide, by decide⟩, .inl ⟨_, rfl, _, rfl, _, _, rfl, rfl, m0, ?_⟩⟩
        exact k _ _ (Int.emod_nonneg _ (by omega)) (Int.emod_lt_of_pos _ m0) (bag _ _ _ _ _ hi hz) (kp _)
end
end Fm

namespace Fm
open PySem PySem.Spec PyProof.Rows L2
/-! ### names -/
/-- a text of 1 to 8 letters a to z -/
def IsNm (w : Str) : Prop := 1 ≤ w.length ∧ w.length ≤ 8 ∧ ∀ c ∈ w.cps.toList, 97 ≤ c ∧ c ≤ 122
def abc : Str := "abcdefghijklmnopqrstuvwxyz"
theorem abc_at : ∀ n : Nat, n < 26 → abc.cps.toList[n]? = some (97 + n) := by decide +kernel
theorem abc_size : abc.cps.toList.length = 26 := by decide +kernel
theorem abc_len : abc.length = 26 := by decide +kernel
theorem abc_ix {r : Int} (h0 : 0 ≤ r) (h1 : r < 26) : atI abc.cps.toList r = some (97 + r.toNat) := by
  unfold atI ixN
  rw [abc_size, if_pos h0, if_pos (by omega)]
  exact abc_at r.toNat (by omega)
theorem one_nm {c : Nat} (h : 97 ≤ c ∧ c ≤ 122) : ∀ d ∈ (⟨#[c]⟩ : Str).cps.toList, 97 ≤ d ∧ d ≤ 122 := by
  intro d hd
  have e : d = c := by simpa using hd
  rw [e]; exact h
theorem join_ones : ∀ cs : List Nat, Str.join ⟨#[]⟩ (cs.map fun c => (⟨#[c]⟩ : Str)) = ⟨cs.toArray⟩
  | [] => rfl
  | [c] => rfl
  | c :: d :: r => by
    have ih := join_ones (d :: r)
    show (⟨#[c]⟩ : Str) ++ ⟨#[]⟩ ++ Str.join ⟨#[]⟩ ((d :: r).map fun c => (⟨#[c]⟩ : Str)) = _
    rw [ih]
    refine ext_toList ?_
    show ((#[c] ++ #[]) ++ (d :: r).toArray).toList = _
    simp
theorem txt_join_ones (cs : List Nat) : PySem.Txt.join (Str.ofString "") (cs.map fun c => (⟨#[c]⟩ : Str)) = ⟨cs.toArray⟩ := by
  rw [show (Str.ofString "" : Str) = ⟨#[]⟩ by decide +kernel]
  rw [TL.join_eq]
  exact join_ones cs
theorem sum_ones : ∀ cs : List Nat, ((cs.map fun c => (⟨#[c]⟩ : Str)).map (·.length)).sum = cs.length
  | [] => rfl
  | c :: r => by
    have ih := sum_ones r
    show 1 + ((r.map fun c => (⟨#[c]⟩ : Str)).map (·.length)).sum = r.length + 1
    rw [ih]; omega
theorem inV_strs (w : Str) (ws : List Str) : inV (.str w) (ws.map V.str) = decide (w ∈ ws) := by
  unfold inV
  induction ws with
  | nil => rfl
  | cons a r ih =>
    rw [List.map_cons, List.any_cons, ih]
    show ((a == w) || decide (w ∈ r)) = _
    by_cases h : a = w
    · subst h; simp
    · have : ¬ w = a := fun z => h z.symm
      simp [h, this]
theorem flat_strs (ws : List Str) : (ws.map V.str).all flatV = true := by
  rw [List.all_eq_true]
  intro x hx
  obtain ⟨w, _, rfl⟩ := List.mem_map.mp hx
  rfl
theorem pigeon {α : Type} [DecidableEq α] : ∀ (l ws : List α), l.Nodup → (∀ x ∈ l, x ∈ ws) → l.length ≤ ws.length
  | [], _, _, _ => Nat.zero_le _
  | a :: l, ws, nd, h => by
    have ha : a ∈ ws := h a List.mem_cons_self
    have hn : a ∉ l := (List.nodup_cons.mp nd).1
    have ih := pigeon l (ws.erase a) (List.nodup_cons.mp nd).2 fun x hx => by
      have hxa : x ≠ a := fun z => hn (z ▸ hx)
      exact (List.mem_erase_of_ne hxa).mpr (h x (List.mem_cons_of_mem _ hx))
    have := List.length_erase_of_mem ha
    have hp : 0 < ws.length := List.length_pos_of_mem ha
    simp only [List.length_cons]
    omega
/-- the stem and one letter -/
def stemL (s : Str) (n : Nat) : Str := s ++ ⟨#[97 + n]⟩
theorem stemL_inj {s : Str} {m n : Nat} (h : stemL s m = stemL s n) : m = n := by
  have e : (stemL s m).cps.toList = (stemL s n).cps.toList := by rw [h]
  unfold stemL at e
  change (s.cps ++ #[97 + m]).toList = (s.cps ++ #[97 + n]).toList at e
  simp at e
  omega
theorem stems_nodup (s : Str) (n : Nat) : ((List.range n).map (stemL s)).Nodup := by
  rw [List.nodup_iff_pairwise_ne, List.pairwise_map]
  exact (List.nodup_range (n := n)).imp fun h z => h (stemL_inj z)
theorem stem_nm {s : Str} {n : Nat} (h7 : s.length ≤ 7) (hs : ∀ c ∈ s.cps.toList, 97 ≤ c ∧ c ≤ 122) (hn : n < 26) : IsNm (stemL s n) := by
  have hl : (stemL s n).length = s.length + 1 := by
    unfold stemL
    change (s.cps ++ #[97 + n]).size = s.cps.size + 1
    simp
  refine ⟨by omega, by omega, fun c hc => ?_⟩
  unfold stemL at hc
  change c ∈ (s.cps ++ #[97 + n]).toList at hc
  simp at hc
  rcases hc with hc | hc
  · exact hs c (by simpa using hc)
  · omega
theorem cut7 (w : Str) : (cutS w none (some 7)).length ≤ 7 ∧ ∀ c ∈ (cutS w none (some 7)).cps.toList, c ∈ w.cps.toList := by
  have e1 : HT.sIx w.length w.length (some 7) = min 7 w.length := HT.sIx_nat _ _ 7
  unfold cutS
  rw [e1, HT.sIx_none, List.drop_zero, Nat.sub_zero]
  refine ⟨?_, fun c hc => ?_⟩
  · change (List.take (min 7 w.length) w.cps.toList).toArray.size ≤ 7
    simp
    omega
  · exact List.mem_of_mem_take (by simpa using hc)
/-- the ways through the loop: while the words were taken, up to k letters -/
theorem all_taken {s : Str} {ws : List Str} (hw : ws.length ≤ 25) (h : ∀ j, j < 26 → stemL s j ∈ ws) : False := by
  have := pigeon ((List.range 26).map (stemL s)) ws (stems_nodup s 26) fun x hx => by
    obtain ⟨j, hj, rfl⟩ := List.mem_map.mp hx
    exact h j (List.mem_range.mp hj)
  rw [List.length_map, List.length_range] at this
  omega
end Fm

namespace Fm
open PySem PySem.Spec PyProof.Rows L2
def spName : Sp := fun vs H Q _ => ∃ (b c t : Addr) (ws : List Str), vs = [.ref b, .ref t] ∧ Bag H b c ∧ H t = some (.lst (ws.map V.str)) ∧ t ≠ b ∧ t ≠ c ∧ ws.length ≤ 25 ∧
  ∀ (w : Str) (H' : Hp), IsNm w → w ∉ ws → Bag H' b c → H' t = some (.lst ((ws ++ [w]).map V.str)) → Kp [b, t] H H' → Q (.str w) H'
def menu8 : List Str := ["end", "put", "scan", "none", "of", "same", "table", "block"]
theorem menu8_nm : ∀ n : Nat, n < 8 → ∃ w, menu8[n]? = some w ∧ IsNm w := by
  intro n hn
  have : ∀ n : Fin 8, ∃ w, menu8[n.1]? = some w ∧ (1 ≤ w.length ∧ w.length ≤ 8 ∧ (w.cps.toList.all fun c => decide (97 ≤ c) && decide (c ≤ 122)) = true) := by
    intro n
    refine ⟨menu8[n.1]'(by have := n.2; show n.1 < 8; omega), by simp, ?_⟩
    revert n
    decide +kernel
  obtain ⟨w, h1, h2, h3, h4⟩ := this ⟨n, hn⟩
  refine ⟨w, h1, h2, h3, fun c hc => ?_⟩
  have := List.all_eq_true.mp h4 c hc
  simpa using this
theorem atI_of {α : Type} {xs : List α} {r : Int} {x : α} (h0 : 0 ≤ r) (h : xs[r.toNat]? = some x) : atI xs r = some x := by
  have hl : r.toNat < xs.length := (List.getElem?_eq_some_iff.mp h).1
  unfold atI ixN
  rw [if_pos h0, if_pos (by omega)]
  exact h
section
variable {P : Program} {w : World} {K : PySem.W.Frag} {mg : Str → Option Value} {base : Heap}
theorem ok_name (B : Bi mg) (D : Dfn K mg "_law_name" s__law_name ["_law_bag_here", "_law_taken"]) (G_pick : Has P w K mg base CX0 "_law_pick" ["_law_bag_here", "_law_many"] 1 spPick) :
    Has P w K mg base CX0 "_law_name" ["_law_bag_here", "_law_taken"] 2 spName := by
  refine D.has sc__law_name (fun vs H Q E h => ?_) (fun f cdv A outer s H vs Q E hr h => ?_)
  · obtain ⟨b, c, t, ws, rfl, _⟩ := h; rfl
  · obtain ⟨b, c, t, ws, rfl, BG, ht, tb, tc, hw, k⟩ := h
    refine ⟨_, (pss_cons (ps_set (i := 2) sc__law_name.nd rfl (by first | exact Or.inl rfl | exact Or.inr rfl) pe_str)
  (C8.pss_cut (ps_if (pt_cmpR op_eq (pe_has G_pick hr (pa_cons (pv 0) (pa_cons pe_int pa_nil))) pe_int (nomark _))
  (pss_one (ps_set (i := 3) sc__law_name.nd rfl (by first | exact Or.inl rfl | exact Or.inr rfl) (pe_ix ix_list (pe_lst (pa_cons pe_str (pa_cons pe_str (pa_cons pe_str (pa_cons pe_str (pa_cons pe_str (pa_cons pe_str (pa_cons pe_str (pa_cons pe_str pa_nil))))))))) (pe_has G_pick hr (pa_cons (pv 0) (pa_cons pe_int pa_nil))) (fun _ _ => rfl))))
  (pss_one (ps_set (i := 3) sc__law_name.nd rfl (by first | exact Or.inl rfl | exact Or.inr rfl) (pe_join pe_str (pe_lc (own := [("_law_k", 5)]) (g := gName 5) (by rfl) sc__law_name.nd (pi_range1 rfl B.range (pa_cons (pe_op op_add pe_int (pe_has G_pick hr (pa_cons (pv 0) (pa_cons pe_int pa_nil)))) pa_nil)) (blkOk_by (own := [("_law_k", 5)]) (N := N__law_name) (sc := defScope s__law_name) (by decide +kernel)) (fun _ _ _ _ _ => (pg_name (i := 5) sc__law_name.nd rfl (by first | exact Or.inl rfl | exact Or.inr rfl))) (fun _ _ _ _ _ => pts_nil) (fun _ _ _ _ _ => (pe_ix ix_str (pv 2) (pe_has G_pick hr (pa_cons (pv 0) (pa_cons pe_int pa_nil))) (fun _ _ => rfl))))))))
  (pss_cons (ps_set (i := 4) sc__law_name.nd rfl (by first | exact Or.inl rfl | exact Or.inr rfl) (pe_slice sl_str (pv 3) po_none (po_some pe_int)))
  (C8.pss_cut (ps_for PassesOwn.never rfl (pi_range1 rfl B.range (pa_cons pe_int pa_nil)) (pg_name (i := 5) sc__law_name.nd rfl (by first | exact Or.inl rfl | exact Or.inr rfl))
  (pss_cons (ps_if (pt_cmpR op_notIn_seq (pv 3) (pv 1) (by rfl))
  (pss_one ps_break)
  pss_nil)
  (pss_one (ps_set (i := 3) sc__law_name.nd rfl (by first | exact Or.inl rfl | exact Or.inr rfl) (pe_op op_add_str (pv 4) (pe_ix ix_str (pv 2) (pv 5) (fun _ _ => rfl)))))))
  (pss_cons (ps_expr (pe_bm PySem.F.plainAttrs_list PySem.F.slot_list_append PySem.F.type_list_append mt_append (pv 1) (pa_cons (pv 3) pa_nil)))
  (pss_one (ps_ret (pv 3)))))))), ?_⟩
    -- the word drawn
    refine ⟨fun σ H' => ∃ w0 : Str, σ = [some (.ref b), some (.ref t), some (.str abc), some (.str w0), none, none] ∧ IsNm w0 ∧ Bag H' b c ∧ Kp [b] H H', ?_, ?_⟩
    · refine ⟨_, rfl, b, c, 12, rfl, BG, by decide, by decide, fun r H1 r0 r1 B1 k1 => ?_⟩
      refine ⟨rfl, _, rfl, ?_⟩
      refine ite2 (fun _ => ?_) (fun _ => ?_)
      · refine ⟨by show 8 ≤ sizeLine; decide, fun p np => ?_⟩
        have k2 := k1.snoc (o := .lst (menu8.map V.str)) np
        refine ⟨_, rfl, b, c, 8, rfl, B1.keep0 (Kp.new np), by decide, by decide, fun r H2 r0 r1 B2 k3 => ?_⟩
        have np' : H2 p = some (.lst (menu8.map V.str)) := k3.at_ p _ upd_same (fun z => by
          have e : p = b := by simpa using z
          obtain ⟨o, ho⟩ := B1.someB
          rw [← e, np] at ho; cases ho)
        obtain ⟨x, hx, nx⟩ := menu8_nm r.toNat (by omega)
        refine ⟨p, _, r, .str x, rfl, rfl, SqL.of np', atI_of r0 (by rw [List.getElem?_map, hx]; rfl), ?_⟩
        exact ⟨x, rfl, nx, B2, k2.trans k3⟩
      · refine ⟨⟨_, rfl⟩, ?_⟩
        refine ⟨_, rfl, b, c, 8, rfl, B1, by decide, by decide, fun r H2 r0 r1 B2 k2 => ?_⟩
        refine ⟨_, _, rfl, rfl, 1 + r, rfl, by omega, by omega, fun D hD => ?_⟩
        have kD := (k1.trans k2).snoc (o := .lst []) hD
        have Db : D ≠ b := fun z => by
          obtain ⟨o, ho⟩ := B2.someB
          rw [← z, hD] at ho; cases ho
        have Dc : D ≠ c := fun z => by
          obtain ⟨o, ho⟩ := B2.someC
          rw [← z, hD] at ho; cases ho
        have hDH : H D = none := by
          cases e : H D with
          | none => rfl
          | some o => rw [(k1.trans k2).at_ D o e (by simpa using Db)] at hD; cases hD
        refine lc_range (lo := 0) (n := (1 + r).toNat) (fun i H' => ∃ cs : List Nat, cs.length = i ∧ (∀ x ∈ cs, 97 ≤ x ∧ x ≤ 122) ∧ H' D = some (.lst (cs.map fun x => V.str ⟨#[x]⟩)) ∧ Bag H' b c ∧ Kp [b] H H')
          ⟨[], rfl, (fun x h => nomatch h), upd_same, B2.keep0 (Kp.new hD), kD⟩ ?_ ?_
        · rintro i H3 hi ⟨cs, hl, hc, h3, B3, k3⟩
          refine ⟨rfl, _, rfl, _, rfl, b, c, 26, rfl, B3, by decide, by decide, fun q H4 q0 q1 B4 k4 => ?_⟩
          have h4 : H4 D = some (.lst (cs.map fun x => V.str ⟨#[x]⟩)) := k4.at_ D _ h3 (by simpa using Db)
          refine ⟨abc, q, _, rfl, rfl, by rw [abc_len]; decide, abc_ix q0 q1, _, h4, ?_, ?_⟩
          · rw [List.length_map]; exact small1000 (by omega)
          · refine ⟨cs ++ [97 + q.toNat], by simp [hl], fun x hx => ?_, by rw [upd_same]; simp, ?_, (k3.trans k4).late hDH⟩
            · rcases List.mem_append.mp hx with h | h
              · exact hc x h
              · have e : x = 97 + q.toNat := by simpa using h
                omega
            · exact B4.keep (ms := [D]) (Kp.updL h4 (by simp)) (by simpa using Ne.symm Db) (by simpa using Ne.symm Dc)
        · rintro H3 ⟨cs, hl, hc, h3, B3, k3⟩
          refine ⟨_, D, cs.map fun x => (⟨#[x]⟩ : Str), rfl, rfl, .inl (SqL.of (by rw [h3, List.map_map]; rfl)), ?_, ?_⟩
          · rw [sum_ones, List.length_map, show (Str.ofString "").length = 0 by decide +kernel]
            omega
          · refine ⟨_, rfl, ?_, B3, k3⟩
            rw [txt_join_ones]
            refine ⟨?_, ?_, fun x hx => hc x (by simpa using hx)⟩
            · show 1 ≤ cs.toArray.size
              simp; omega
            · show cs.toArray.size ≤ 8
              simp; omega
    · rintro σ' H1 ⟨w0, rfl, n0, B1, k1⟩
      have ht1 : H1 t = some (.lst (ws.map V.str)) := k1.at_ t _ ht (by simpa using tb)
      obtain ⟨s7, sn⟩ := cut7 w0
      generalize hst : cutS w0 none (some 7) = st at s7 sn
      have sn' : ∀ c ∈ st.cps.toList, 97 ≤ c ∧ c ≤ 122 := fun c hc => n0.2.2 c (sn c hc)
      refine ⟨_, rfl, 7, rfl, w0, rfl, Nat.le_trans n0.2.1 (by decide), ?_⟩
      show C8.tCut _ _ _ _ _
      refine ⟨fun σ H' => ∃ (x : Str) (v : Option V), σ = [some (.ref b), some (.ref t), some (.str abc), some (.str x), some (.str st), v] ∧ IsNm x ∧ x ∉ ws ∧ H' = H1, ?_, ?_⟩
      · refine ⟨26, rfl, by decide, by decide, ?_⟩
        refine for_range (lo := 0) (n := 26) (fun i σ H' => ∃ (x : Str) (v : Option V), σ = [some (.ref b), some (.ref t), some (.str abc), some (.str x), some (.str st), v] ∧ IsNm x ∧ H' = H1 ∧ (∀ j, j + 1 < i → stemL st j ∈ ws) ∧ (0 < i → x = stemL st (i - 1)))
          ⟨w0, none, by rw [← hst]; rfl, n0, rfl, fun j h => absurd h (by omega), fun h => absurd h (by omega)⟩ ?_ ?_
        · rintro i σ H' hi ⟨x, v, rfl, nx, rfl, hj, hx⟩
          refine ⟨_, rfl, _, rfl, t, _, rfl, .inl (SqL.of ht1), rfl, flat_strs ws, _, rfl, ?_⟩
          rw [inV_strs]
          by_cases hm : x ∈ ws
          · rw [decide_eq_true hm]
            refine iteF ?_
            refine ⟨_, rfl, _, rfl, _, rfl, abc, _, _, rfl, rfl, by rw [abc_len]; decide, abc_ix (r := 0 + (i : Int)) (by omega) (by omega), _, _, rfl, rfl, ?_, ?_⟩
            · show st.length + 1 ≤ sizeLine
              exact Nat.le_trans (Nat.succ_le_succ s7) (by decide)
            · refine ⟨stemL st i, some (.int (0 + (i : Int))), ?_, stem_nm s7 sn' (by omega), rfl, fun j h => ?_, fun _ => rfl⟩
              · have e : (0 + (i : Int)).toNat = i := by omega
                rw [e]
                rfl
              · by_cases e : j + 1 < i
                · exact hj j e
                · have e2 : j = i - 1 := by omega
                  rw [e2, ← hx (by omega)]
                  exact hm
          · rw [decide_eq_false hm]
            refine iteT ?_
            exact ⟨x, _, rfl, nx, hm, rfl⟩
        · rintro σ H' ⟨x, v, rfl, nx, rfl, hj, hx⟩
          refine ⟨x, v, rfl, nx, fun hm => all_taken (s := st) hw fun j h => ?_, rfl⟩
          by_cases e : j + 1 < 26
          · exact hj j e
          · have e2 : j = 25 := by omega
            have := hx (by decide)
            rw [e2, ← this]
            exact hm
      · rintro σ' H' ⟨x, v, rfl, nx, nm, rfl⟩
        refine ⟨_, rfl, .inl ⟨rfl, _, SqL.of ht1⟩, _, rfl, t, _, _, rfl, rfl, ht1, by rw [List.length_map]; exact small1000 (by omega), ?_⟩
        refine ⟨_, rfl, ?_⟩
        refine k x _ nx nm (B1.keep (ms := [t]) (Kp.updL ht1 (by simp)) (by simpa using Ne.symm tb) (by simpa using Ne.symm tc)) (by rw [upd_same]; simp) ?_
        exact (k1.mono (by simp)).trans (Kp.updL ht1 (by simp))
end
end Fm

namespace Fm
open PySem PySem.Spec PyProof.Rows L2
/-! ### data in the heap: v tells d, at most n deep; with q = true no dict in it is locked -/
def keyD : Key → PyData
  | .inl i => .int i
  | .inr x => .str x
def DkAt (q : Bool) (H : Hp) (a : Addr) (kvs : List (Key × V)) : Prop := if q = true then H a = some (.dK kvs) else Rd H a (.dK kvs)
mutual
inductive Dt (S : Addr → Prop) (q : Bool) (H : Hp) : Nat → V → PyData → Prop
  | non {n : Nat} : Dt S q H n .non .none
  | bl {n : Nat} (b : Bool) : Dt S q H n (.bl b) (.bool b)
  | int {n : Nat} (i : Int) : Dt S q H n (.int i) (.int i)
  | str {n : Nat} (x : Str) (h : x.length ≤ 1000000) : Dt S q H n (.str x) (.str x)
  | lst {n : Nat} {a : Addr} {xs : List V} {ds : List PyData} : Rd H a (.lst xs) → xs.length ≤ 1000000 ∧ S a → DtAll S q H n xs ds → Dt S q H (n + 1) (.ref a) (.list ds)
  | tup {n : Nat} {a : Addr} {xs : List V} {ds : List PyData} : H a = some (.tup xs) → xs.length ≤ 1000000 ∧ S a → DtAll S q H n xs ds → Dt S q H (n + 1) (.ref a) (.tuple ds)
  | dic {n : Nat} {a : Addr} {kvs : List (Key × V)} {ds : List (PyData × PyData)} : DkAt q H a kvs → (kvs.length ≤ 1000000 ∧ (kvs.map (·.1)).Nodup) ∧ S a → DtKV S q H n kvs ds → Dt S q H (n + 1) (.ref a) (.dict ds)
inductive DtAll (S : Addr → Prop) (q : Bool) (H : Hp) : Nat → List V → List PyData → Prop
  | nil {n : Nat} : DtAll S q H n [] []
  | cons {n : Nat} {v : V} {vs : List V} {d : PyData} {ds : List PyData} : Dt S q H n v d → DtAll S q H n vs ds → DtAll S q H n (v :: vs) (d :: ds)
inductive DtKV (S : Addr → Prop) (q : Bool) (H : Hp) : Nat → List (Key × V) → List (PyData × PyData) → Prop
  | nil {n : Nat} : DtKV S q H n [] []
  | cons {n : Nat} {k : Key} {v : V} {vs : List (Key × V)} {d : PyData} {ds : List (PyData × PyData)} : Dt S q H n v d → DtKV S q H n vs ds → DtKV S q H n ((k, v) :: vs) ((keyD k, d) :: ds)
end
/-- what stood stands, or is locked now -/
def Sm (H H' : Hp) : Prop := ∀ a o, H a = some o → H' a = some o ∨ (∃ ob, H' a = some (.frz ob o)) ∧ (∀ ob u, o ≠ .frz ob u) ∧ ∀ xs, o ≠ .tup xs
theorem Sm.rd {H H' : Hp} (s : Sm H H') {a : Addr} {u : HO} (r : Rd H a u) : Rd H' a u := by
  rcases r with r | ⟨o, r⟩
  · rcases s a u r with h | ⟨⟨ob, h⟩, _⟩
    · exact .inl h
    · exact .inr ⟨ob, h⟩
  · rcases s a _ r with h | ⟨_, h⟩
    · exact .inr ⟨o, h⟩
    · exact absurd rfl (h.1 o u)
theorem Sm.tup {H H' : Hp} (s : Sm H H') {a : Addr} {xs : List V} (r : H a = some (.tup xs)) : H' a = some (.tup xs) := by
  rcases s a _ r with h | ⟨_, _, h⟩
  · exact h
  · exact absurd rfl (h xs)
theorem Kp.sm {H H' : Hp} (k : Kp [] H H') : Sm H H' := fun a o e => .inl (k.at_ a o e (fun z => nomatch z))
theorem Sm.lock {H : Hp} {d : Addr} {u : HO} {od : Obj} (e : H d = some u) (hu : ∀ ob x, u ≠ .frz ob x) (hv : ∀ xs, u ≠ .tup xs) : Sm H (upd H d (.frz od u)) := fun a o h => by
  by_cases z : a = d
  · rw [z, e] at h
    cases h
    exact .inr ⟨⟨od, by rw [z, upd_same]⟩, hu, hv⟩
  · exact .inl (by rw [upd_ne z]; exact h)
mutual
theorem Dt.sm {S : Addr → Prop} {H H' : Hp} (s : Sm H H') : ∀ {n : Nat} {v : V} {d : PyData}, Dt S false H n v d → Dt S false H' n v d
  | _, _, _, .non => .non
  | _, _, _, .bl b => .bl b
  | _, _, _, .int b => .int b
  | _, _, _, .str b h => .str b h
  | _, _, _, .lst r l a => .lst (s.rd r) l (DtAll.sm s a)
  | _, _, _, .tup r l a => .tup (s.tup r) l (DtAll.sm s a)
  | _, _, _, .dic r l a => .dic (show DkAt false H' _ _ from s.rd (show Rd H _ _ from r)) l (DtKV.sm s a)
theorem DtAll.sm {S : Addr → Prop} {H H' : Hp} (s : Sm H H') : ∀ {n : Nat} {v : List V} {d : List PyData}, DtAll S false H n v d → DtAll S false H' n v d
  | _, _, _, .nil => .nil
  | _, _, _, .cons a b => .cons (Dt.sm s a) (DtAll.sm s b)
theorem DtKV.sm {S : Addr → Prop} {H H' : Hp} (s : Sm H H') : ∀ {n : Nat} {v : List (Key × V)} {d : List (PyData × PyData)}, DtKV S false H n v d → DtKV S false H' n v d
  | _, _, _, .nil => .nil
  | _, _, _, .cons a b => .cons (Dt.sm s a) (DtKV.sm s b)
end
theorem Kp.rd {ms : List Addr} {H H' : Hp} {a : Addr} {u : HO} (k : Kp ms H H') (hm : a ∉ ms) (r : Rd H a u) : Rd H' a u := by
  rcases r with r | ⟨o, r⟩
  · exact .inl (k.at_ _ _ r hm)
  · exact .inr ⟨o, k.at_ _ _ r hm⟩
theorem rd_keep {H H' : Hp} {a : Addr} {u : HO} (s : ∀ o, H a = some o → H' a = some o) (r : Rd H a u) : Rd H' a u := by
  rcases r with r | ⟨o, r⟩
  · exact .inl (s _ r)
  · exact .inr ⟨o, s _ r⟩
mutual
theorem Dt.keep {S : Addr → Prop} {q : Bool} {H H' : Hp} (s : Kp [] H H') : ∀ {n : Nat} {v : V} {d : PyData}, Dt S q H n v d → Dt S q H' n v d
  | _, _, _, .non => .non
  | _, _, _, .bl b => .bl b
  | _, _, _, .int b => .int b
  | _, _, _, .str b h => .str b h
  | _, _, _, .lst r l a => .lst (s.rd (fun z => nomatch z) r) l (DtAll.keep s a)
  | _, _, _, .tup r l a => .tup (s.tp _ _ r) l (DtAll.keep s a)
  | _, _, _, .dic r l a => .dic (by
      unfold DkAt at r ⊢
      cases q with
      | true => exact s.at_ _ _ r (fun z => nomatch z)
      | false => exact s.rd (fun z => nomatch z) r) l (DtKV.keep s a)
theorem DtAll.keep {S : Addr → Prop} {q : Bool} {H H' : Hp} (s : Kp [] H H') : ∀ {n : Nat} {v : List V} {d : List PyData}, DtAll S q H n v d → DtAll S q H' n v d
  | _, _, _, .nil => .nil
  | _, _, _, .cons a b => .cons (Dt.keep s a) (DtAll.keep s b)
theorem DtKV.keep {S : Addr → Prop} {q : Bool} {H H' : Hp} (s : Kp [] H H') : ∀ {n : Nat} {v : List (Key × V)} {d : List (PyData × PyData)}, DtKV S q H n v d → DtKV S q H' n v d
  | _, _, _, .nil => .nil
  | _, _, _, .cons a b => .cons (Dt.keep s a) (DtKV.keep s b)
end
mutual
theorem Dt.keepS {S S' : Addr → Prop} {q : Bool} {H H' : Hp} (s : ∀ a o, S a → H a = some o → H' a = some o) (i : ∀ a, S a → S' a) : ∀ {n : Nat} {v : V} {d : PyData}, Dt S q H n v d → Dt S' q H' n v d
  | _, _, _, .non => .non
  | _, _, _, .bl b => .bl b
  | _, _, _, .int b => .int b
  | _, _, _, .str b h => .str b h
  | _, _, _, .lst r l a => .lst (rd_keep (fun o e => s _ o l.2 e) r) ⟨l.1, i _ l.2⟩ (DtAll.keepS s i a)
  | _, _, _, .tup r l a => .tup (s _ _ l.2 r) ⟨l.1, i _ l.2⟩ (DtAll.keepS s i a)
  | _, _, _, .dic r l a => .dic (by
      unfold DkAt at r ⊢
      cases q with
      | true => exact s _ _ l.2 r
      | false => exact rd_keep (fun o e => s _ o l.2 e) r) ⟨l.1, i _ l.2⟩ (DtKV.keepS s i a)
theorem DtAll.keepS {S S' : Addr → Prop} {q : Bool} {H H' : Hp} (s : ∀ a o, S a → H a = some o → H' a = some o) (i : ∀ a, S a → S' a) : ∀ {n : Nat} {v : List V} {d : List PyData}, DtAll S q H n v d → DtAll S' q H' n v d
  | _, _, _, .nil => .nil
  | _, _, _, .cons a b => .cons (Dt.keepS s i a) (DtAll.keepS s i b)
theorem DtKV.keepS {S S' : Addr → Prop} {q : Bool} {H H' : Hp} (s : ∀ a o, S a → H a = some o → H' a = some o) (i : ∀ a, S a → S' a) : ∀ {n : Nat} {v : List (Key × V)} {d : List (PyData × PyData)}, DtKV S q H n v d → DtKV S' q H' n v d
  | _, _, _, .nil => .nil
  | _, _, _, .cons a b => .cons (Dt.keepS s i a) (DtKV.keepS s i b)
end
theorem Dt.imp {S S' : Addr → Prop} {q : Bool} {H : Hp} {n : Nat} {v : V} {d : PyData} (h : Dt S q H n v d) (i : ∀ a, S a → S' a) : Dt S' q H n v d := h.keepS (fun _ _ _ e => e) i
theorem DtAll.imp {S S' : Addr → Prop} {q : Bool} {H : Hp} {n : Nat} {v : List V} {d : List PyData} (h : DtAll S q H n v d) (i : ∀ a, S a → S' a) : DtAll S' q H n v d := h.keepS (fun _ _ _ e => e) i
mutual
theorem Dt.weak {S : Addr → Prop} {H : Hp} : ∀ {q : Bool} {n : Nat} {v : V} {d : PyData}, Dt S q H n v d → Dt S false H n v d
  | _, _, _, _, .non => .non
  | _, _, _, _, .bl b => .bl b
  | _, _, _, _, .int b => .int b
  | _, _, _, _, .str b h => .str b h
  | _, _, _, _, .lst r l a => .lst r l (DtAll.weak a)
  | _, _, _, _, .tup r l a => .tup r l (DtAll.weak a)
  | q, _, _, _, .dic r l a => .dic (by
      unfold DkAt at r ⊢
      cases q with
      | true => exact .inl r
      | false => exact r) l (DtKV.weak a)
theorem DtAll.weak {S : Addr → Prop} {H : Hp} : ∀ {q : Bool} {n : Nat} {v : List V} {d : List PyData}, DtAll S q H n v d → DtAll S false H n v d
  | _, _, _, _, .nil => .nil
  | _, _, _, _, .cons a b => .cons (Dt.weak a) (DtAll.weak b)
theorem DtKV.weak {S : Addr → Prop} {H : Hp} : ∀ {q : Bool} {n : Nat} {v : List (Key × V)} {d : List (PyData × PyData)}, DtKV S q H n v d → DtKV S false H n v d
  | _, _, _, _, .nil => .nil
  | _, _, _, _, .cons a b => .cons (Dt.weak a) (DtKV.weak b)
end
mutual
theorem Dt.mono {S : Addr → Prop} {q : Bool} {H : Hp} : ∀ {n m : Nat} {v : V} {d : PyData}, n ≤ m → Dt S q H n v d → Dt S q H m v d
  | _, _, _, _, _, .non => .non
  | _, _, _, _, _, .bl b => .bl b
  | _, _, _, _, _, .int b => .int b
  | _, _, _, _, _, .str b h => .str b h
  | n + 1, m + 1, _, _, h, .lst r l a => .lst r l (DtAll.mono (Nat.le_of_succ_le_succ h) a)
  | n + 1, m + 1, _, _, h, .tup r l a => .tup r l (DtAll.mono (Nat.le_of_succ_le_succ h) a)
  | n + 1, m + 1, _, _, h, .dic r l a => .dic r l (DtKV.mono (Nat.le_of_succ_le_succ h) a)
theorem DtAll.mono {S : Addr → Prop} {q : Bool} {H : Hp} : ∀ {n m : Nat} {v : List V} {d : List PyData}, n ≤ m → DtAll S q H n v d → DtAll S q H m v d
  | _, _, _, _, _, .nil => .nil
  | _, _, _, _, h, .cons a b => .cons (Dt.mono h a) (DtAll.mono h b)
theorem DtKV.mono {S : Addr → Prop} {q : Bool} {H : Hp} : ∀ {n m : Nat} {v : List (Key × V)} {d : List (PyData × PyData)}, n ≤ m → DtKV S q H n v d → DtKV S q H m v d
  | _, _, _, _, _, .nil => .nil
  | _, _, _, _, h, .cons a b => .cons (Dt.mono h a) (DtKV.mono h b)
end
theorem rd_fun {H : Hp} {a : Addr} {u u' : HO} (r : Rd H a u) (r' : Rd H a u') (h : ∀ ob x, u ≠ .frz ob x) (h' : ∀ ob x, u' ≠ .frz ob x) : u = u' := by
  rcases r with r | ⟨o, r⟩ <;> rcases r' with r' | ⟨o', r'⟩ <;> rw [r] at r' <;> cases r'
  · rfl
  · exact absurd rfl (h _ _)
  · exact absurd rfl (h' _ _)
  · rfl
theorem keyD_inj {k k' : Key} (h : keyD k = keyD k') : k = k' := by
  cases k <;> cases k' <;> cases h <;> rfl
mutual
theorem Dt.det {S S' : Addr → Prop} {H : Hp} : ∀ {n m : Nat} {v : V} {d e : PyData}, Dt S false H n v d → Dt S' false H m v e → d = e
  | _, _, _, _, _, .non, .non => rfl
  | _, _, _, _, _, .bl _, .bl _ => rfl
  | _, _, _, _, _, .int _, .int _ => rfl
  | _, _, _, _, _, .str _ _, .str _ _ => rfl
  | _, _, _, _, _, .lst r l a, h => by
    cases h with
    | lst r' l' a' =>
      have e := rd_fun r r' (fun _ _ z => by cases z) (fun _ _ z => by cases z)
      cases e
      rw [DtAll.det a a']
    | tup r' l' a' =>
      have e := rd_fun r (.inl r') (fun _ _ z => by cases z) (fun _ _ z => by cases z)
      cases e
    | dic r' l' a' =>
      have e := rd_fun r (show Rd H _ _ from r') (fun _ _ z => by cases z) (fun _ _ z => by cases z)
      cases e
  | _, _, _, _, _, .tup r l a, h => by
    cases h with
    | lst r' l' a' =>
      have e := rd_fun (.inl r) r' (fun _ _ z => by cases z) (fun _ _ z => by cases z)
      cases e
    | tup r' l' a' =>
      have e := rd_fun (.inl r) (.inl r') (fun _ _ z => by cases z) (fun _ _ z => by cases z)
      cases e
      rw [DtAll.det a a']
    | dic r' l' a' =>
      have e := rd_fun (.inl r) (show Rd H _ _ from r') (fun _ _ z => by cases z) (fun _ _ z => by cases z)
      cases e
  | _, _, _, _, _, .dic r l a, h => by
    cases h with
    | lst r' l' a' =>
      have e := rd_fun (show Rd H _ _ from r) r' (fun _ _ z => by cases z) (fun _ _ z => by cases z)
      cases e
    | tup r' l' a' =>
      have e := rd_fun (show Rd H _ _ from r) (.inl r') (fun _ _ z => by cases z) (fun _ _ z => by cases z)
      cases e
    | dic r' l' a' =>
      have e := rd_fun (show Rd H _ _ from r) (show Rd H _ _ from r') (fun _ _ z => by cases z) (fun _ _ z => by cases z)
      cases e
      rw [DtKV.det a a']
theorem DtAll.det {S S' : Addr → Prop} {H : Hp} : ∀ {n m : Nat} {v : List V} {d e : List PyData}, DtAll S false H n v d → DtAll S' false H m v e → d = e
  | _, _, _, _, _, .nil, .nil => rfl
  | _, _, _, _, _, .cons a b, .cons a' b' => by rw [Dt.det a a', DtAll.det b b']
theorem DtKV.det {S S' : Addr → Prop} {H : Hp} : ∀ {n m : Nat} {v : List (Key × V)} {d e : List (PyData × PyData)}, DtKV S false H n v d → DtKV S' false H m v e → d = e
  | _, _, _, _, _, .nil, .nil => rfl
  | _, _, _, _, _, .cons a b, .cons a' b' => by rw [Dt.det a a', DtKV.det b b']
end
/-- locking a dict leaves data that is less than its own -/
theorem rd_lock {H : Hp} {a p : Addr} {u : HO} {kvs : List (Key × V)} {od : Obj} (hp : H p = some (.dK kvs)) (hu : ∀ kvs, u ≠ .dK kvs) (hf : ∀ ob x, u ≠ .frz ob x) (r : Rd H a u) : Rd (upd H p (.frz od (.dK kvs))) a u :=
  (Sm.lock (od := od) hp (fun _ _ z => by cases z) (fun _ z => by cases z)).rd r
mutual
theorem Dt.lock {S : Addr → Prop} {H : Hp} {p : Addr} {kvs : List (Key × V)} {ds : List (PyData × PyData)} {od : Obj} {m : Nat} (hp : H p = some (.dK kvs)) (hl : (kvs.length ≤ 1000000 ∧ (kvs.map (·.1)).Nodup) ∧ S p) (hd : DtKV S false H m kvs ds) : ∀ {n : Nat} {v : V} {d : PyData}, Dt S true H n v d → sizeOf d < sizeOf (PyData.dict ds) → Dt S true (upd H p (.frz od (.dK kvs))) n v d
  | _, _, _, .non, _ => .non
  | _, _, _, .bl b, _ => .bl b
  | _, _, _, .int b, _ => .int b
  | _, _, _, .str b h, _ => .str b h
  | _, _, _, .lst r l a, h => .lst (rd_lock hp (fun _ z => by cases z) (fun _ _ z => by cases z) r) l (DtAll.lock hp hl hd a (by simp at h ⊢; omega))
  | _, _, _, .tup r l a, h => .tup ((Sm.lock (od := od) hp (fun _ _ z => by cases z) (fun _ z => by cases z)).tup r) l (DtAll.lock hp hl hd a (by simp at h ⊢; omega))
  | n + 1, .ref x, .dict es, .dic (kvs := kvs') r l a, h => by
    have r' : H x = some (.dK kvs') := r
    refine .dic ?_ l (DtKV.lock hp hl hd a (by simp at h ⊢; omega))
    show upd H p _ x = some (.dK kvs')
    by_cases z : x = p
    · exfalso
      have e : Dt S false H (m + 1) (.ref x) (.dict ds) := by rw [z]; exact .dic (show Rd H p _ from .inl hp) hl hd
      have e2 : Dt S false H (n + 1) (.ref x) (.dict es) := .dic (show Rd H x _ from .inl r') l (DtKV.weak a)
      have e3 := Dt.det e2 e
      rw [e3] at h
      exact Nat.lt_irrefl _ h
    · rw [upd_ne z]; exact r'
theorem DtAll.lock {S : Addr → Prop} {H : Hp} {p : Addr} {kvs : List (Key × V)} {ds : List (PyData × PyData)} {od : Obj} {m : Nat} (hp : H p = some (.dK kvs)) (hl : (kvs.length ≤ 1000000 ∧ (kvs.map (·.1)).Nodup) ∧ S p) (hd : DtKV S false H m kvs ds) : ∀ {n : Nat} {v : List V} {d : List PyData}, DtAll S true H n v d → sizeOf d < sizeOf (PyData.dict ds) → DtAll S true (upd H p (.frz od (.dK kvs))) n v d
  | _, _, _, .nil, _ => .nil
  | _, _, _, .cons a b, h => .cons (Dt.lock hp hl hd a (by simp at h ⊢; omega)) (DtAll.lock hp hl hd b (by simp at h ⊢; omega))
theorem DtKV.lock {S : Addr → Prop} {H : Hp} {p : Addr} {kvs : List (Key × V)} {ds : List (PyData × PyData)} {od : Obj} {m : Nat} (hp : H p = some (.dK kvs)) (hl : (kvs.length ≤ 1000000 ∧ (kvs.map (·.1)).Nodup) ∧ S p) (hd : DtKV S false H m kvs ds) : ∀ {n : Nat} {v : List (Key × V)} {d : List (PyData × PyData)}, DtKV S true H n v d → sizeOf d < sizeOf (PyData.dict ds) → DtKV S true (upd H p (.frz od (.dK kvs))) n v d
  | _, _, _, .nil, _ => .nil
  | _, _, _, .cons a b, h => .cons (Dt.lock hp hl hd a (by simp at h ⊢; omega)) (DtKV.lock hp hl hd b (by simp at h ⊢; omega))
end
/-! ### items -/
theorem DtAll.len {S : Addr → Prop} {q : Bool} {H : Hp} : ∀ {n : Nat} {v : List V} {d : List PyData}, DtAll S q H n v d → v.length = d.length
  | _, _, _, .nil => rfl
  | _, _, _, .cons _ b => by rw [List.length_cons, List.length_cons, DtAll.len b]
theorem DtAll.get {S : Addr → Prop} {q : Bool} {H : Hp} : ∀ {n : Nat} {v : List V} {d : List PyData}, DtAll S q H n v d → ∀ {i : Nat} {x : PyData}, d[i]? = some x → ∃ y, v[i]? = some y ∧ Dt S q H n y x
  | _, _, _, .cons a b, 0, x, h => by cases h; exact ⟨_, rfl, a⟩
  | _, _, _, .cons a b, i + 1, x, h => b.get (i := i) h
theorem DtAll.getV {S : Addr → Prop} {q : Bool} {H : Hp} : ∀ {n : Nat} {v : List V} {d : List PyData}, DtAll S q H n v d → ∀ {i : Nat} {y : V}, v[i]? = some y → ∃ x, d[i]? = some x ∧ Dt S q H n y x
  | _, _, _, .cons a b, 0, x, h => by cases h; exact ⟨_, rfl, a⟩
  | _, _, _, .cons a b, i + 1, x, h => b.getV (i := i) h
theorem DtAll.append {S : Addr → Prop} {q : Bool} {H : Hp} : ∀ {n : Nat} {v v' : List V} {d d' : List PyData}, DtAll S q H n v d → DtAll S q H n v' d' → DtAll S q H n (v ++ v') (d ++ d')
  | _, _, _, _, _, .nil, h => h
  | _, _, _, _, _, .cons a b, h => .cons a (b.append h)
theorem DtKV.len {S : Addr → Prop} {q : Bool} {H : Hp} : ∀ {n : Nat} {v : List (Key × V)} {d : List (PyData × PyData)}, DtKV S q H n v d → v.length = d.length
  | _, _, _, .nil => rfl
  | _, _, _, .cons _ b => by rw [List.length_cons, List.length_cons, DtKV.len b]
theorem DtKV.keys {S S' : Addr → Prop} {q q' : Bool} {H H' : Hp} : ∀ {n m : Nat} {v v' : List (Key × V)} {d : List (PyData × PyData)}, DtKV S q H n v d → DtKV S' q' H' m v' d → v.map (·.1) = v'.map (·.1)
  | _, _, _, _, _, .nil, h => by cases h; rfl
  | _, _, _, _, _, .cons (k := k) a b, h => by
    generalize hd : keyD k = kd at h
    cases h with
    | @cons _ k' _ _ _ _ a' b' =>
      have e := keyD_inj hd
      rw [List.map_cons, List.map_cons, b.keys b']
      show k :: _ = k' :: _
      rw [e]
theorem DtKV.val {S S' : Addr → Prop} {q q' : Bool} {H H' : Hp} : ∀ {n m : Nat} {v v' : List (Key × V)} {d : List (PyData × PyData)}, DtKV S q H n v d → DtKV S' q' H' m v' d → ∀ (k : Key), k ∈ v.map (·.1) → ∃ x y e, valV v k = some x ∧ valV v' k = some y ∧ Dt S q H n x e ∧ Dt S' q' H' m y e ∧ sizeOf e < sizeOf (PyData.dict d)
  | _, _, _, _, _, .nil, h, k, hk => nomatch hk
  | _, _, _, _, _, .cons (k := k0) (v := v0) (vs := vs) a b, h, k, hk => by
    generalize hd : keyD k0 = kd at h
    cases h with
    | @cons _ k' v1 vs' _ _ a' b' =>
      have e := keyD_inj hd
      subst e
      by_cases z : k0 = k
      · refine ⟨_, _, _, ?_, ?_, a, a', ?_⟩
        · unfold valV; rw [List.find?_cons_of_pos (by simp [z])]; rfl
        · unfold valV; rw [List.find?_cons_of_pos (by simp [z])]; rfl
        · simp; omega
      · have hk' : k ∈ vs.map (·.1) := by
          rcases List.mem_cons.mp hk with h | h
          · exact absurd h.symm z
          · exact h
        obtain ⟨x, y, e, h1, h2, h3, h4, h5⟩ := b.val b' k hk'
        refine ⟨x, y, e, ?_, ?_, h3, h4, ?_⟩
        · unfold valV at h1 ⊢; rw [List.find?_cons_of_neg (by simp [z])]; exact h1
        · unfold valV at h2 ⊢; rw [List.find?_cons_of_neg (by simp [z])]; exact h2
        · simp at h5 ⊢; omega
theorem DtKV.getV {S : Addr → Prop} {q : Bool} {H : Hp} : ∀ {n : Nat} {v : List (Key × V)} {d : List (PyData × PyData)}, DtKV S q H n v d → ∀ {i : Nat} {k : Key} {y : V}, v[i]? = some (k, y) → ∃ x, d[i]? = some (keyD k, x) ∧ Dt S q H n y x ∧ sizeOf x < sizeOf (PyData.dict d)
  | _, _, _, .cons a b, 0, k, y, h => by
    cases h
    exact ⟨_, rfl, a, by simp; omega⟩
  | _, _, _, .cons a b, i + 1, k, y, h => by
    obtain ⟨x, h1, h2, h3⟩ := b.getV (i := i) h
    exact ⟨x, h1, h2, by simp at h3 ⊢; omega⟩
theorem DtKV.append {S : Addr → Prop} {q : Bool} {H : Hp} : ∀ {n : Nat} {v v' : List (Key × V)} {d d' : List (PyData × PyData)}, DtKV S q H n v d → DtKV S q H n v' d' → DtKV S q H n (v ++ v') (d ++ d')
  | _, _, _, _, _, .nil, h => h
  | _, _, _, _, _, .cons a b, h => .cons a (b.append h)
theorem valV_out {kvs : List (Key × V)} {k : Key} (h : k ∉ kvs.map (·.1)) : valV kvs k = none := by
  unfold valV
  rw [Option.map_eq_none_iff, List.find?_eq_none]
  intro x hx hk
  exact h (List.mem_map.mpr ⟨x, hx, of_decide_eq_true hk⟩)
theorem valV_at : ∀ {kvs : List (Key × V)} {i : Nat} {k : Key} {v : V}, (kvs.map (·.1)).Nodup → kvs[i]? = some (k, v) → valV kvs k = some v
  | [], _, _, _, _, h => by cases h
  | p :: r, 0, k, v, _, h => by
    cases h
    unfold valV
    rw [List.find?_cons_of_pos (by simp)]; rfl
  | p :: r, i + 1, k, v, nd, h => by
    have ih := valV_at (kvs := r) (i := i) (List.nodup_cons.mp nd).2 h
    have hm : k ∈ r.map (·.1) := List.mem_map.mpr ⟨(k, v), List.mem_of_getElem? h, rfl⟩
    have hne : p.1 ≠ k := fun z => (List.nodup_cons.mp nd).1 (by rw [← z] at hm; exact hm)
    unfold valV at ih ⊢
    rw [List.find?_cons_of_neg (by simp [hne])]
    exact ih
theorem nodup_at {α : Type} : ∀ {l : List α} (_ : l.Nodup) {i j : Nat} (hi : i < l.length) (hj : j < l.length), l[i] = l[j] → i = j
  | a :: l, nd, 0, 0, _, _, _ => rfl
  | a :: l, nd, 0, j + 1, _, hj, e => absurd (show a ∈ l by rw [show a = l[j]'(by simpa using hj) from e]; exact List.getElem_mem _) (List.nodup_cons.mp nd).1
  | a :: l, nd, i + 1, 0, hi, _, e => absurd (show a ∈ l by rw [← show l[i]'(by simpa using hi) = a from e]; exact List.getElem_mem _) (List.nodup_cons.mp nd).1
  | a :: l, nd, i + 1, j + 1, hi, hj, e => congrArg (· + 1) (nodup_at (List.nodup_cons.mp nd).2 (by simpa using hi) (by simpa using hj) e)
theorem notin_take {α : Type} {l : List α} {i : Nat} {x : α} (nd : l.Nodup) (h : l[i]? = some x) : x ∉ l.take i := fun hm => by
  obtain ⟨j, hj, e⟩ := List.mem_take_iff_getElem.mp hm
  obtain ⟨hi, e2⟩ := List.getElem?_eq_some_iff.mp h
  have := (nodup_at nd (by omega) hi (e.trans e2.symm))
  omega
/-! ### what isinstance tells of data -/
def tyD : PyData → Value
  | .none => .type "NoneType"
  | .bool _ => .type "bool"
  | .int _ => .type "int"
  | .str _ => .type "str"
  | .list _ => .type "list"
  | .tuple _ => .type "tuple"
  | .dict _ => .type "dict"
end Fm
namespace Fm
open PySem PySem.Spec PyProof.Rows L2
def tyS : PyData → String
  | .none => "NoneType"
  | .bool _ => "bool"
  | .int _ => "int"
  | .str _ => "str"
  | .list _ => "list"
  | .tuple _ => "tuple"
  | .dict _ => "dict"
theorem Dt.ty {S : Addr → Prop} {K : PySem.W.Frag} {q : Bool} {H : Hp} : ∀ {n : Nat} {v : V} {d : PyData}, Dt S q H n v d → TyX K H v (.type (tyS d))
  | _, _, _, .non => .base .non
  | _, _, _, .bl b => .base (.bl b)
  | _, _, _, .int b => .base (.int b)
  | _, _, _, .str b _ => .base (.str b)
  | _, _, _, .lst r l a => by
    rcases r with r | ⟨o, r⟩
    · exact .base (.lst r)
    · exact .base (.frz r)
  | _, _, _, .tup r l a => .base (.tup r)
  | _, _, _, .dic r l a => by
    have r' := (show Rd H _ _ by
      unfold DkAt at r
      cases q with
      | true => exact .inl r
      | false => exact r)
    rcases r' with r | ⟨o, r⟩
    · exact .base (.dK r)
    · exact .fDict r
def isL : PyData → Bool
  | .list _ => true
  | _ => false
theorem kb_list : ∀ d : PyData, kitB (tyS d) "list" = some (isL d)
  | .none => (by decide +kernel : kitB "NoneType" "list" = some false)
  | .bool _ => (by decide +kernel : kitB "bool" "list" = some false)
  | .int _ => (by decide +kernel : kitB "int" "list" = some false)
  | .str _ => (by decide +kernel : kitB "str" "list" = some false)
  | .list _ => (by decide +kernel : kitB "list" "list" = some true)
  | .tuple _ => (by decide +kernel : kitB "tuple" "list" = some false)
  | .dict _ => (by decide +kernel : kitB "dict" "list" = some false)
def isT : PyData → Bool
  | .tuple _ => true
  | _ => false
theorem kb_tuple : ∀ d : PyData, kitB (tyS d) "tuple" = some (isT d)
  | .none => (by decide +kernel : kitB "NoneType" "tuple" = some false)
  | .bool _ => (by decide +kernel : kitB "bool" "tuple" = some false)
  | .int _ => (by decide +kernel : kitB "int" "tuple" = some false)
  | .str _ => (by decide +kernel : kitB "str" "tuple" = some false)
  | .list _ => (by decide +kernel : kitB "list" "tuple" = some false)
  | .tuple _ => (by decide +kernel : kitB "tuple" "tuple" = some true)
  | .dict _ => (by decide +kernel : kitB "dict" "tuple" = some false)
def isM : PyData → Bool
  | .dict _ => true
  | _ => false
theorem kb_dict : ∀ d : PyData, kitB (tyS d) "dict" = some (isM d)
  | .none => (by decide +kernel : kitB "NoneType" "dict" = some false)
  | .bool _ => (by decide +kernel : kitB "bool" "dict" = some false)
  | .int _ => (by decide +kernel : kitB "int" "dict" = some false)
  | .str _ => (by decide +kernel : kitB "str" "dict" = some false)
  | .list _ => (by decide +kernel : kitB "list" "dict" = some false)
  | .tuple _ => (by decide +kernel : kitB "tuple" "dict" = some false)
  | .dict _ => (by decide +kernel : kitB "dict" "dict" = some true)
def isB : PyData → Bool
  | .bool _ => true
  | _ => false
theorem kb_bool : ∀ d : PyData, kitB (tyS d) "bool" = some (isB d)
  | .none => (by decide +kernel : kitB "NoneType" "bool" = some false)
  | .bool _ => (by decide +kernel : kitB "bool" "bool" = some true)
  | .int _ => (by decide +kernel : kitB "int" "bool" = some false)
  | .str _ => (by decide +kernel : kitB "str" "bool" = some false)
  | .list _ => (by decide +kernel : kitB "list" "bool" = some false)
  | .tuple _ => (by decide +kernel : kitB "tuple" "bool" = some false)
  | .dict _ => (by decide +kernel : kitB "dict" "bool" = some false)
def isI : PyData → Bool
  | .bool _ => true
  | .int _ => true
  | _ => false
theorem kb_int : ∀ d : PyData, kitB (tyS d) "int" = some (isI d)
  | .none => (by decide +kernel : kitB "NoneType" "int" = some false)
  | .bool _ => (by decide +kernel : kitB "bool" "int" = some true)
  | .int _ => (by decide +kernel : kitB "int" "int" = some true)
  | .str _ => (by decide +kernel : kitB "str" "int" = some false)
  | .list _ => (by decide +kernel : kitB "list" "int" = some false)
  | .tuple _ => (by decide +kernel : kitB "tuple" "int" = some false)
  | .dict _ => (by decide +kernel : kitB "dict" "int" = some false)
def isS : PyData → Bool
  | .str _ => true
  | _ => false
theorem kb_str : ∀ d : PyData, kitB (tyS d) "str" = some (isS d)
  | .none => (by decide +kernel : kitB "NoneType" "str" = some false)
  | .bool _ => (by decide +kernel : kitB "bool" "str" = some false)
  | .int _ => (by decide +kernel : kitB "int" "str" = some false)
  | .str _ => (by decide +kernel : kitB "str" "str" = some true)
  | .list _ => (by decide +kernel : kitB "list" "str" = some false)
  | .tuple _ => (by decide +kernel : kitB "tuple" "str" = some false)
  | .dict _ => (by decide +kernel : kitB "dict" "str" = some false)
theorem isi1 {S : Addr → Prop} {K : PySem.W.Frag} {q : Bool} {H : Hp} {n : Nat} {x : V} {d : PyData} {T : String} {b : Bool} {Q : VK} (h : Dt S q H n x d) (hb : kitB (tyS d) T = some b) (hq : Q (.bl b) H) : rIsi K [x, .ty T] H Q :=
  ⟨x, .ty T, .type (tyS d), .type T, b, rfl, .ty T, h.ty, kit_ty hb, hq⟩
def isRowD : PyData → Bool
  | .list _ => true
  | .tuple _ => true
  | _ => false
theorem kit_row {K : PySem.W.Frag} (d : PyData) : PySem.W.kitAny K (.type (tyS d)) [.type "list", .type "tuple"] = some (isRowD d) := by
  refine kitAny_cons (kit_ty (kb_list d)) (fun e => kitAny_cons (kit_ty (kb_tuple d)) (fun e' => ?_) (fun e' => ?_)) (fun e => ?_)
  · cases d <;> first | rfl | exact Bool.noConfusion e' | exact Bool.noConfusion e
  · cases d <;> first | rfl | exact Bool.noConfusion e' | exact Bool.noConfusion e
  · cases d <;> first | rfl | exact Bool.noConfusion e
theorem isiR {S : Addr → Prop} {K : PySem.W.Frag} {q : Bool} {H : Hp} {n : Nat} {x : V} {d : PyData} {T : Addr} {Q : VK} (h : Dt S q H n x d) (hT : H T = some (.tup [.ty "list", .ty "tuple"])) (hq : Q (.bl (isRowD d)) H) : rIsiT K [x, .ref T] H Q :=
  ⟨x, T, _, .type (tyS d), [.type "list", .type "tuple"], _, rfl, hT, .cons (.ty _) (.cons (.ty _) .nil), h.ty, kit_row d, hq⟩
theorem iteB {b c : Bool} {A B : Prop} (e : b = c) (h : if c = true then A else B) : if b = true then A else B := by rw [e]; exact h
theorem callR_or {X : Cx} {f : Value} {r r' : List V → Hp → VK → Prop} (h : CallR X f r) (h' : CallR X f r') : CallR X f (fun xs H Q => r xs H Q ∨ r' xs H Q) := by
  intro pins s σ H xs us Q I rv q
  rcases q with q | q
  · exact h pins s σ H xs us Q I rv q
  · exact h' pins s σ H xs us Q I rv q
theorem opR_or {X : Cx} {f : Value → Value → Sem Value} {r r' : R2} (h : OpR X f r) (h' : OpR X f r') : OpR X f (fun x y H Q => r x y H Q ∨ r' x y H Q) := by
  intro pins s σ H x y v u Q I rx ry q
  rcases q with q | q
  · exact h pins s σ H x y v u Q I rx ry q
  · exact h' pins s σ H x y v u Q I rx ry q
/-- len of a dict, locked or not -/
theorem call_lenR {X : Cx} : CallR X (.builtin "len") (fun xs H Q => ∃ a kvs, xs = [V.ref a] ∧ Rd H a (.dK kvs) ∧ Q (.int kvs.length) H) := by
  intro pins s σ H xs us Q I r h
  obtain ⟨a, kvs, rfl, ha, q⟩ := h
  obtain ⟨u, rfl, ru⟩ := vals1 r
  cases ru
  exact d_len I ha fun t s' I' => ⟨.int kvs.length, H, I', ⟨t, rfl⟩, q⟩
/-- a def of which nothing is promised -/
theorem Dfn.none {P : Program} {w : World} {K : PySem.W.Frag} {mg : Str → Option Value} {base : Heap} {x : Str} {st : Stmt} {ps : List Str} {CX : CXT} {k : Nat} (D : Dfn K mg x st ps) : Has P w K mg base CX x ps k (fun _ _ _ _ => False) := by
  obtain ⟨f, fd, F, g, b⟩ := D
  exact ⟨f, fd, ⟨fun _ _ _ _ h => h.elim, fun _ _ _ _ _ _ _ _ _ _ _ _ _ h => h.elim⟩, g, F.kp, b⟩
end Fm
namespace Fm
open PySem PySem.Spec PyProof.Rows L2
theorem rd_some {H : Hp} {a : Addr} {u : HO} (r : Rd H a u) : H a ≠ none := by
  rcases r with r | ⟨o, r⟩ <;> rw [r] <;> exact fun z => nomatch z
mutual
theorem Dt.inH {S : Addr → Prop} {q : Bool} {H : Hp} : ∀ {n : Nat} {v : V} {d : PyData}, Dt S q H n v d → Dt (fun a => S a ∧ H a ≠ none) q H n v d
  | _, _, _, .non => .non
  | _, _, _, .bl b => .bl b
  | _, _, _, .int b => .int b
  | _, _, _, .str b h => .str b h
  | _, _, _, .lst r l a => .lst r ⟨l.1, l.2, rd_some r⟩ (DtAll.inH a)
  | _, _, _, .tup r l a => .tup r ⟨l.1, l.2, rd_some (.inl r)⟩ (DtAll.inH a)
  | _, _, _, .dic r l a => .dic r ⟨l.1, l.2, by
      unfold DkAt at r
      cases q with
      | true => exact rd_some (.inl r)
      | false => exact rd_some r⟩ (DtKV.inH a)
theorem DtAll.inH {S : Addr → Prop} {q : Bool} {H : Hp} : ∀ {n : Nat} {v : List V} {d : List PyData}, DtAll S q H n v d → DtAll (fun a => S a ∧ H a ≠ none) q H n v d
  | _, _, _, .nil => .nil
  | _, _, _, .cons a b => .cons (Dt.inH a) (DtAll.inH b)
theorem DtKV.inH {S : Addr → Prop} {q : Bool} {H : Hp} : ∀ {n : Nat} {v : List (Key × V)} {d : List (PyData × PyData)}, DtKV S q H n v d → DtKV (fun a => S a ∧ H a ≠ none) q H n v d
  | _, _, _, .nil => .nil
  | _, _, _, .cons a b => .cons (Dt.inH a) (DtKV.inH b)
end
end Fm

namespace Fm
open PySem PySem.Spec PyProof.Rows L2
def spAlike (n : Nat) : Sp := fun vs H Q _ => ∃ (S S' : Addr → Prop) (x y : V) (d : PyData), vs = [x, y] ∧ Dt S true H n x d ∧ Dt S' false H n y d ∧ ∀ H', Kp [] H H' → Q (.bl true) H'
def spAlikeB : Nat → Sp
  | 0 => fun _ _ _ _ => False
  | n + 1 => spAlike n
theorem reps_snoc (i : Nat) : (List.replicate i true).map V.bl ++ [V.bl true] = (List.replicate (i + 1) true).map V.bl := by
  rw [List.replicate_succ', List.map_append]; rfl
theorem reps_all (i : Nat) : (List.replicate i true).all id = true := by
  rw [List.all_eq_true]
  intro x hx
  rw [(List.mem_replicate.mp hx).2]; rfl
section
variable {P : Program} {w : World} {K : PySem.W.Frag} {mg : Str → Option Value} {base : Heap}
theorem step_alike (B : Bi mg) (D : Dfn K mg "_law_alike" s__law_alike ["_law_one", "_law_other"]) (n : Nat) (G_alike : Has P w K mg base CX0 "_law_alike" ["_law_one", "_law_other"] n (spAlikeB n)) :
    Has P w K mg base CX0 "_law_alike" ["_law_one", "_law_other"] (n + 1) (spAlike n) := by
  refine D.has sc__law_alike (fun vs H Q E h => ?_) (fun f cdv A outer s H vs Q E hr h => ?_)
  · obtain ⟨S, S', x, y, d, rfl, _⟩ := h; rfl
  · obtain ⟨S, S', x, y, d, rfl, hx, hy, k⟩ := h
    have hu := hu_of hr
    refine ⟨_, (pss_cons (ps_if (pt_val (pe_callB call_isiT (by rfl) B.isinstance (by decide +kernel) (pa_cons (pv 0) (pa_cons (pe_tup (pa_cons (pe_bltn (v := .ty "list") (by rfl) B.list (by decide +kernel) rfl) (pa_cons (pe_bltn (v := .ty "tuple") (by rfl) B.tuple (by decide +kernel) rfl) pa_nil))) pa_nil))))
  (pss_cons (ps_if (PW.pt (pw_or (pt_cmpR op_ne (pe_callB call_isi (by rfl) B.isinstance (by decide +kernel) (pa_cons (pv 0) (pa_cons (pe_bltn (v := .ty "list") (by rfl) B.list (by decide +kernel) rfl) pa_nil))) (pe_callB call_isi (by rfl) B.isinstance (by decide +kernel) (pa_cons (pv 1) (pa_cons (pe_bltn (v := .ty "list") (by rfl) B.list (by decide +kernel) rfl) pa_nil))) (nomark _)) (pw_or1 (pt_cmpR op_ne (pe_callB call_isi (by rfl) B.isinstance (by decide +kernel) (pa_cons (pv 0) (pa_cons (pe_bltn (v := .ty "tuple") (by rfl) B.tuple (by decide +kernel) rfl) pa_nil))) (pe_callB call_isi (by rfl) B.isinstance (by decide +kernel) (pa_cons (pv 1) (pa_cons (pe_bltn (v := .ty "tuple") (by rfl) B.tuple (by decide +kernel) rfl) pa_nil))) (nomark _)))))
  (pss_one (ps_ret pe_bl))
  pss_nil)
  (pss_cons (ps_if (pt_cmpR op_ne (pe_callB call_len (by rfl) B.len PySem.boot_len (pa_cons (pv 0) pa_nil)) (pe_callB call_len (by rfl) B.len PySem.boot_len (pa_cons (pv 1) pa_nil)) (nomark _))
  (pss_one (ps_ret pe_bl))
  pss_nil)
  (pss_one (ps_ret (pe_callB (cr_all rfl) (by rfl) B.all (by decide +kernel) (pa_cons (pe_lc (own := [("_law_k", 2)]) (g := gName 2) (by rfl) sc__law_alike.nd (pi_range1 rfl B.range (pa_cons (pe_callB call_len (by rfl) B.len PySem.boot_len (pa_cons (pv 0) pa_nil)) pa_nil)) (blkOk_by (own := [("_law_k", 2)]) (N := N__law_alike) (sc := defScope s__law_alike) (by decide +kernel)) (fun _ _ _ _ _ => (pg_name (i := 2) sc__law_alike.nd rfl (by first | exact Or.inl rfl | exact Or.inr rfl))) (fun _ _ _ _ _ => pts_nil) (fun _ _ _ _ _ => (pe_has G_alike hr (pa_cons (pe_ix (r := rIx K) ix_seq (pv 0) (pv 2) (fun _ _ => rfl)) (pa_cons (pe_ix (r := rIx K) ix_seq (pv 1) (pv 2) (fun _ _ => rfl)) pa_nil))))) pa_nil))))))
  pss_nil)
  (pss_cons (ps_if (PW.pt (pw_and (pt_val (pe_callB call_isi (by rfl) B.isinstance (by decide +kernel) (pa_cons (pv 0) (pa_cons (pe_bltn (v := .ty "dict") (by rfl) B.dict (by decide +kernel) rfl) pa_nil)))) (pw_and1 (pt_val (pe_callB call_isi (by rfl) B.isinstance (by decide +kernel) (pa_cons (pv 1) (pa_cons (pe_bltn (v := .ty "dict") (by rfl) B.dict (by decide +kernel) rfl) pa_nil)))))))
  (pss_cons (ps_if (pt_cmpR op_ne (pe_callB call_lenR (by rfl) B.len PySem.boot_len (pa_cons (pv 0) pa_nil)) (pe_callB call_lenR (by rfl) B.len PySem.boot_len (pa_cons (pv 1) pa_nil)) (nomark _))
  (pss_one (ps_ret pe_bl))
  pss_nil)
  (pss_one (ps_ret (pe_callB (cr_all rfl) (by rfl) B.all (by decide +kernel) (pa_cons (pe_lock (pe_lc (own := [("_law_key", 3)]) (g := gName 3) (by rfl) sc__law_alike.nd (pi_keys (pv 0)) (blkOk_by (own := [("_law_key", 3)]) (N := N__law_alike) (sc := defScope s__law_alike) (by decide +kernel)) (fun _ _ _ _ _ => (pg_name (i := 3) sc__law_alike.nd rfl (by first | exact Or.inl rfl | exact Or.inr rfl))) (fun _ _ _ _ _ => pts_nil) (fun _ _ _ _ _ => (pe_and (pe_cmp (pc_din hu (pv 3) (pv 1)) rfl) (pe_one (pe_has G_alike hr (pa_cons (pe_dget hu (pv 0) (pv 3) (fun _ _ => rfl)) (pa_cons (pe_dget1 hu (pv 1) (pv 3) ⟨rfl, rfl, rfl, rfl⟩) pa_nil)))))))) pa_nil)))))
  pss_nil)
  (pss_one (ps_ret (pe_and (pe_cmpR op_eq (pe_callB call_isi (by rfl) B.isinstance (by decide +kernel) (pa_cons (pv 0) (pa_cons (pe_bltn (v := .ty "bool") (by rfl) B.bool (by decide +kernel) rfl) pa_nil))) (pe_callB call_isi (by rfl) B.isinstance (by decide +kernel) (pa_cons (pv 1) (pa_cons (pe_bltn (v := .ty "bool") (by rfl) B.bool (by decide +kernel) rfl) pa_nil))) (nomark _)) (pe_one (pe_cmpR op_eq (pv 0) (pv 1) (nomark _)))))))), ?_⟩
    -- isinstance(one, (list, tuple))
    refine ⟨_, rfl, (by show 2 ≤ sizeLine; decide), fun T hT => ⟨_, T, _, _, _, _, rfl, upd_same, .cons (.ty _) (.cons (.ty _) .nil), (hx.keep (Kp.new hT)).ty, kit_row _, _, rfl, ?_⟩⟩
    have hx1 := hx.keep (Kp.new (o := .tup [.ty "list", .ty "tuple"]) hT)
    have hy1 := hy.keep (Kp.new (o := .tup [.ty "list", .ty "tuple"]) hT)
    have k1 : Kp [] H (upd H T (.tup [.ty "list", .ty "tuple"])) := Kp.new hT
    generalize upd H T (.tup [.ty "list", .ty "tuple"]) = H1 at hx1 hy1 k1 ⊢
    cases d with
    | list ds =>
      refine iteT ?_
      cases hx1 with
      | @lst m p xs _ rx lx ax =>
        cases hy1 with
        | @lst _ p' ys _ ry ly ay =>
          have hx1 : Dt S true H1 (m + 1) (.ref p) (.list ds) := .lst rx lx ax
          have hy1 : Dt S' false H1 (m + 1) (.ref p') (.list ds) := .lst ry ly ay
          have hl : xs.length = ys.length := ax.len.trans ay.len.symm
          refine ⟨_, rfl, _, _, _, _, _, rfl, .ty _, hx1.ty, kit_ty (kb_list _), _, rfl, _, _, _, _, _, rfl, .ty _, hy1.ty, kit_ty (kb_list _), rfl, _, rfl, iteF ?_⟩
          refine ⟨_, rfl, _, _, _, _, _, rfl, .ty _, hx1.ty, kit_ty (kb_tuple _), _, rfl, _, _, _, _, _, rfl, .ty _, hy1.ty, kit_ty (kb_tuple _), rfl, _, rfl, iteF ?_⟩
          refine ⟨_, rfl, _, _, rfl, .inl ⟨_, .inl rx, rfl⟩, _, rfl, _, _, rfl, .inl ⟨_, .inl ry, rfl⟩, rfl, _, rfl, ?_⟩
          refine iteNS (by rw [hl]) ?_
          refine ⟨_, rfl, _, _, rfl, .inl ⟨_, .inl rx, rfl⟩, (xs.length : Int), rfl, by omega, (by have := lx.1; omega), fun D hD => ?_⟩
          have hDH : H D = none := by
            cases e : H D with
            | none => rfl
            | some o => rw [k1.at_ D o e (fun z => nomatch z)] at hD; cases hD
          refine lc_range (lo := 0) (n := (xs.length : Int).toNat) (fun i H' => H' D = some (.lst ((List.replicate i true).map V.bl)) ∧ Kp [] H1 H') ⟨upd_same, Kp.new hD⟩ ?_ ?_
          · rintro i H2 hi ⟨h2, k2⟩
            have hi' : i < xs.length := by omega
            obtain ⟨u, hu1⟩ : ∃ u, xs[i]? = some u := ⟨xs[i], List.getElem?_eq_getElem hi'⟩
            obtain ⟨d, hd, du⟩ := ax.getV hu1
            obtain ⟨v, hv1, dv⟩ := ay.get hd
            have e0 : (0 + (i : Int)).toNat = i := by omega
            refine ⟨rfl, _, rfl, _, rfl, .inl ⟨_, _, _, u, rfl, rfl, .inl (k2.rd (fun z => nomatch z) rx), atI_of (by omega) (by rw [e0]; exact hu1), ?_⟩⟩
            refine ⟨_, rfl, _, rfl, .inl ⟨_, _, _, v, rfl, rfl, .inl (k2.rd (fun z => nomatch z) ry), atI_of (by omega) (by rw [e0]; exact hv1), ?_⟩⟩
            refine ⟨S, S', u, v, d, rfl, du.keep k2, dv.keep k2, fun H3 k3 => ?_⟩
            refine ⟨_, k3.at_ _ _ h2 (fun z => nomatch z), ?_, ?_, (k2.trans k3).late hD⟩
            · rw [List.length_map, List.length_replicate]
              exact Nat.lt_of_lt_of_le hi' (Nat.le_trans lx.1 (by decide))
            · rw [upd_same, reps_snoc]
          · rintro H2 ⟨h2, k2⟩
            refine ⟨D, _, rfl, SqL.of h2, ?_⟩
            rw [reps_all]
            exact k H2 (k1.trans k2)
    | tuple ds =>
      refine iteT ?_
      cases hx1 with
      | @tup m p xs _ rx lx ax =>
        cases hy1 with
        | @tup _ p' ys _ ry ly ay =>
          have hx1 : Dt S true H1 (m + 1) (.ref p) (.tuple ds) := .tup rx lx ax
          have hy1 : Dt S' false H1 (m + 1) (.ref p') (.tuple ds) := .tup ry ly ay
          have hl : xs.length = ys.length := ax.len.trans ay.len.symm
          refine ⟨_, rfl, _, _, _, _, _, rfl, .ty _, hx1.ty, kit_ty (kb_list _), _, rfl, _, _, _, _, _, rfl, .ty _, hy1.ty, kit_ty (kb_list _), rfl, _, rfl, iteF ?_⟩
          refine ⟨_, rfl, _, _, _, _, _, rfl, .ty _, hx1.ty, kit_ty (kb_tuple _), _, rfl, _, _, _, _, _, rfl, .ty _, hy1.ty, kit_ty (kb_tuple _), rfl, _, rfl, iteF ?_⟩
          refine ⟨_, rfl, _, _, rfl, .inr ⟨_, .inl (.inl rx), rfl⟩, _, rfl, _, _, rfl, .inr ⟨_, .inl (.inl ry), rfl⟩, rfl, _, rfl, ?_⟩
          refine iteNS (by rw [hl]) ?_
          refine ⟨_, rfl, _, _, rfl, .inr ⟨_, .inl (.inl rx), rfl⟩, (xs.length : Int), rfl, by omega, (by have := lx.1; omega), fun D hD => ?_⟩
          have hDH : H D = none := by
            cases e : H D with
            | none => rfl
            | some o => rw [k1.at_ D o e (fun z => nomatch z)] at hD; cases hD
          refine lc_range (lo := 0) (n := (xs.length : Int).toNat) (fun i H' => H' D = some (.lst ((List.replicate i true).map V.bl)) ∧ Kp [] H1 H') ⟨upd_same, Kp.new hD⟩ ?_ ?_
          · rintro i H2 hi ⟨h2, k2⟩
            have hi' : i < xs.length := by omega
            obtain ⟨u, hu1⟩ : ∃ u, xs[i]? = some u := ⟨xs[i], List.getElem?_eq_getElem hi'⟩
            obtain ⟨d, hd, du⟩ := ax.getV hu1
            obtain ⟨v, hv1, dv⟩ := ay.get hd
            have e0 : (0 + (i : Int)).toNat = i := by omega
            refine ⟨rfl, _, rfl, _, rfl, .inr (.inl ⟨_, _, _, u, rfl, rfl, .inl (.inl (k2.tp _ _ rx)), atI_of (by omega) (by rw [e0]; exact hu1), ?_⟩)⟩
            refine ⟨_, rfl, _, rfl, .inr (.inl ⟨_, _, _, v, rfl, rfl, .inl (.inl (k2.tp _ _ ry)), atI_of (by omega) (by rw [e0]; exact hv1), ?_⟩)⟩
            refine ⟨S, S', u, v, d, rfl, du.keep k2, dv.keep k2, fun H3 k3 => ?_⟩
            refine ⟨_, k3.at_ _ _ h2 (fun z => nomatch z), ?_, ?_, (k2.trans k3).late hD⟩
            · rw [List.length_map, List.length_replicate]
              exact Nat.lt_of_lt_of_le hi' (Nat.le_trans lx.1 (by decide))
            · rw [upd_same, reps_snoc]
          · rintro H2 ⟨h2, k2⟩
            refine ⟨D, _, rfl, SqL.of h2, ?_⟩
            rw [reps_all]
            exact k H2 (k1.trans k2)
    | dict ds =>
      refine iteF ?_
      cases hx1 with
      | @dic m p kvs _ rx lx ax =>
        cases hy1 with
        | @dic _ p' lvs _ ry ly ay =>
          have hx1 : Dt S true H1 (m + 1) (.ref p) (.dict ds) := .dic rx lx ax
          have hy1 : Dt S' false H1 (m + 1) (.ref p') (.dict ds) := .dic ry ly ay
          have rx' : H1 p = some (.dK kvs) := rx
          have ry' : Rd H1 p' (.dK lvs) := ry
          have hl : kvs.length = lvs.length := ax.len.trans ay.len.symm
          refine ⟨_, rfl, _, _, _, _, _, rfl, .ty _, hx1.ty, kit_ty (kb_dict _), _, rfl, iteT ?_⟩
          refine ⟨_, rfl, _, _, _, _, _, rfl, .ty _, hy1.ty, kit_ty (kb_dict _), _, rfl, iteT ?_⟩
          refine ⟨_, rfl, _, _, rfl, .inl rx', _, rfl, _, _, rfl, ry', rfl, _, rfl, ?_⟩
          refine iteNS (by rw [hl]) ?_
          refine ⟨p, _, rx', trivial, fun od => ?_⟩
          have sl : Sm H1 (upd H1 p (.frz od (.dK kvs))) := Sm.lock rx' (fun _ _ z => by cases z) (fun _ z => by cases z)
          refine ⟨_, rfl, p, od, rfl, .inl ⟨kvs, upd_same, fun D hD => ?_⟩⟩
          have Dp : D ≠ p := fun z => by rw [z, upd_same] at hD; cases hD
          have hD1 : H1 D = none := by rw [upd_ne Dp] at hD; exact hD
          refine lc_it (walk_keys (kvs := kvs)) (fun i H' => H' D = some (.lst ((List.replicate i true).map V.bl)) ∧ Kp [] (upd H1 p (.frz od (.dK kvs))) H') ⟨upd_same, Kp.new hD⟩ ?_ ?_ ?_
          · rintro i H2 hi ⟨h2, k2⟩
            exact k2.at_ p _ upd_same (fun z => nomatch z)
          · rintro i xk H2 H3 hi ⟨h2, k2⟩ ⟨rfl, kk, vv, hk, rfl⟩
            have mk : kk ∈ kvs.map (·.1) := List.mem_map.mpr ⟨(kk, vv), List.mem_of_getElem? hk, rfl⟩
            obtain ⟨u, v, e, hu1, hv1, du, dv, hs⟩ := ax.val ay kk mk
            have rd1 : Rd H3 p (.dK kvs) := .inr ⟨od, k2.at_ p _ upd_same (fun z => nomatch z)⟩
            have rd2 : Rd H3 p' (.dK lvs) := k2.rd (fun z => nomatch z) (sl.rd ry')
            refine ⟨rfl, _, rfl, _, rfl, p', some v, rfl, .inl ⟨lvs, kk, rd2, rfl, hv1.symm⟩, _, rfl, iteT ?_⟩
            refine ⟨_, rfl, _, rfl, p, u, rfl, .inl ⟨kvs, kk, rd1, rfl, hu1.symm⟩, ?_⟩
            refine ⟨_, rfl, p', rfl, .inl ⟨lvs, rd2⟩, _, rfl, some v, .inl ⟨lvs, kk, rd2, rfl, hv1.symm⟩, ?_⟩
            refine ⟨S, S', u, v, e, rfl, (du.lock rx' lx ax.weak hs).keep k2, (dv.sm sl).keep k2, fun H4 k4 => ?_⟩
            refine ⟨_, k4.at_ _ _ h2 (fun z => nomatch z), ?_, ?_, (k2.trans k4).late hD⟩
            · rw [List.length_map, List.length_replicate]
              exact Nat.lt_of_lt_of_le hi (Nat.le_trans lx.1.1 (by decide))
            · rw [upd_same, reps_snoc]
          · rintro H2 ⟨h2, k2⟩
            refine ⟨k2.at_ p _ upd_same (fun z => nomatch z), ?_⟩
            refine ⟨D, _, rfl, SqL.of (by rw [upd_ne Dp]; exact h2), ?_⟩
            rw [reps_all]
            refine k _ (k1.trans ⟨fun a o e _ => ?_, fun a xs e => ?_⟩)
            · by_cases z : a = p
              · rw [z, upd_same]; rw [z, rx'] at e; exact e
              · rw [upd_ne z]; exact k2.at_ a o (by rw [upd_ne z]; exact e) (fun z => nomatch z)
            · by_cases z : a = p
              · rw [z, rx'] at e; cases e
              · rw [upd_ne z]; exact k2.tp a xs (by rw [upd_ne z]; exact e)
    | none =>
      refine iteF ?_
      cases hx1
      cases hy1
      refine ⟨_, rfl, _, _, _, _, _, rfl, .ty _, (Dt.non (S := S) (q := true) (H := H1) (n := 0)).ty, kit_ty (kb_dict _), _, rfl, iteF ?_⟩
      refine iteF ?_
      refine ⟨_, rfl, _, _, _, _, _, rfl, .ty _, (Dt.non (S := S) (q := true) (H := H1) (n := 0)).ty, kit_ty (kb_bool _), _, rfl, _, _, _, _, _, rfl, .ty _, (Dt.non (S := S) (q := true) (H := H1) (n := 0)).ty, kit_ty (kb_bool _), rfl, _, rfl, iteT ?_⟩
      refine ⟨_, rfl, _, rfl, rfl, ?_⟩
      rw [decide_eq_true rfl]
      exact k H1 k1
    | bool b =>
      refine iteF ?_
      cases hx1
      cases hy1
      refine ⟨_, rfl, _, _, _, _, _, rfl, .ty _, (Dt.bl (S := S) (q := true) (H := H1) (n := 0) b).ty, kit_ty (kb_dict _), _, rfl, iteF ?_⟩
      refine iteF ?_
      refine ⟨_, rfl, _, _, _, _, _, rfl, .ty _, (Dt.bl (S := S) (q := true) (H := H1) (n := 0) b).ty, kit_ty (kb_bool _), _, rfl, _, _, _, _, _, rfl, .ty _, (Dt.bl (S := S) (q := true) (H := H1) (n := 0) b).ty, kit_ty (kb_bool _), rfl, _, rfl, iteT ?_⟩
      refine ⟨_, rfl, _, rfl, rfl, ?_⟩
      rw [decide_eq_true rfl]
      exact k H1 k1
    | int i =>
      refine iteF ?_
      cases hx1
      cases hy1
      refine ⟨_, rfl, _, _, _, _, _, rfl, .ty _, (Dt.int (S := S) (q := true) (H := H1) (n := 0) i).ty, kit_ty (kb_dict _), _, rfl, iteF ?_⟩
      refine iteF ?_
      refine ⟨_, rfl, _, _, _, _, _, rfl, .ty _, (Dt.int (S := S) (q := true) (H := H1) (n := 0) i).ty, kit_ty (kb_bool _), _, rfl, _, _, _, _, _, rfl, .ty _, (Dt.int (S := S) (q := true) (H := H1) (n := 0) i).ty, kit_ty (kb_bool _), rfl, _, rfl, iteT ?_⟩
      refine ⟨_, rfl, _, rfl, rfl, ?_⟩
      rw [decide_eq_true rfl]
      exact k H1 k1
    | str z =>
      refine iteF ?_
      cases hx1 with
      | str _ hz =>
      cases hy1
      refine ⟨_, rfl, _, _, _, _, _, rfl, .ty _, (Dt.str (S := S) (q := true) (H := H1) (n := 0) z hz).ty, kit_ty (kb_dict _), _, rfl, iteF ?_⟩
      refine iteF ?_
      refine ⟨_, rfl, _, _, _, _, _, rfl, .ty _, (Dt.str (S := S) (q := true) (H := H1) (n := 0) z hz).ty, kit_ty (kb_bool _), _, rfl, _, _, _, _, _, rfl, .ty _, (Dt.str (S := S) (q := true) (H := H1) (n := 0) z hz).ty, kit_ty (kb_bool _), rfl, _, rfl, iteT ?_⟩
      refine ⟨_, rfl, _, rfl, rfl, ?_⟩
      rw [decide_eq_true rfl]
      exact k H1 k1
theorem ok_alike (B : Bi mg) (D : Dfn K mg "_law_alike" s__law_alike ["_law_one", "_law_other"]) : ∀ n : Nat, Has P w K mg base CX0 "_law_alike" ["_law_one", "_law_other"] (n + 1) (spAlike n)
  | 0 => step_alike B D 0 D.none
  | n + 1 => step_alike B D (n + 1) (ok_alike B D n)
end
end Fm

namespace Fm
open PySem PySem.Spec PyProof.Rows L2
/-- the new thing tells the same data, and reaches none of what stood -/
def spCopied (n : Nat) : Sp := fun vs H Q _ => ∃ (S : Addr → Prop) (x : V) (d : PyData), vs = [x] ∧ Dt S true H n x d ∧ ∀ y H', Kp [] H H' → Dt (fun a => H a = none) true H' n y d → Q y H'
def spCopiedB : Nat → Sp
  | 0 => fun _ _ _ _ => False
  | n + 1 => spCopied n
theorem take_snoc {α : Type} {l : List α} {i : Nat} {x : α} (h : l[i]? = some x) : l.take (i + 1) = l.take i ++ [x] := by
  have hi : i < l.length := (List.getElem?_eq_some_iff.mp h).1
  rw [List.take_succ, h]; rfl
section
variable {P : Program} {w : World} {K : PySem.W.Frag} {mg : Str → Option Value} {base : Heap}
theorem step_copied (B : Bi mg) (D : Dfn K mg "_law_copied" s__law_copied ["_law_thing"]) (n : Nat) (G_copied : Has P w K mg base CX0 "_law_copied" ["_law_thing"] n (spCopiedB n)) :
    Has P w K mg base CX0 "_law_copied" ["_law_thing"] (n + 1) (spCopied n) := by
  refine D.has sc__law_copied (fun vs H Q E h => ?_) (fun f cdv A outer s H vs Q E hr h => ?_)
  · obtain ⟨S, x, d, rfl, _⟩ := h; rfl
  · obtain ⟨S, x, d, rfl, hx, k⟩ := h
    have hu := hu_of hr
    refine ⟨_, (pss_cons (ps_if (pt_val (pe_callB call_isi (by rfl) B.isinstance (by decide +kernel) (pa_cons (pv 0) (pa_cons (pe_bltn (v := .ty "tuple") (by rfl) B.tuple (by decide +kernel) rfl) pa_nil))))
  (pss_one (ps_ret (pe_callTy call_tuple_of (by rfl) B.tuple (by decide +kernel) (pa_cons (pe_lc (own := [("_law_part", 3)]) (g := gName 3) (by rfl) sc__law_copied.nd (pi_tup (pv 0)) (blkOk_by (own := [("_law_part", 3)]) (N := N__law_copied) (sc := defScope s__law_copied) (by decide +kernel)) (fun _ _ _ _ _ => (pg_name (i := 3) sc__law_copied.nd rfl (by first | exact Or.inl rfl | exact Or.inr rfl))) (fun _ _ _ _ _ => pts_nil) (fun _ _ _ _ _ => (pe_has G_copied hr (pa_cons (pv 3) pa_nil)))) pa_nil))))
  pss_nil)
  (pss_cons (ps_if (pt_val (pe_callB call_isi (by rfl) B.isinstance (by decide +kernel) (pa_cons (pv 0) (pa_cons (pe_bltn (v := .ty "list") (by rfl) B.list (by decide +kernel) rfl) pa_nil))))
  (pss_one (ps_ret (pe_lc (own := [("_law_part", 3)]) (g := gName 3) (by rfl) sc__law_copied.nd (pi_list (pv 0)) (blkOk_by (own := [("_law_part", 3)]) (N := N__law_copied) (sc := defScope s__law_copied) (by decide +kernel)) (fun _ _ _ _ _ => (pg_name (i := 3) sc__law_copied.nd rfl (by first | exact Or.inl rfl | exact Or.inr rfl))) (fun _ _ _ _ _ => pts_nil) (fun _ _ _ _ _ => (pe_has G_copied hr (pa_cons (pv 3) pa_nil))))))
  pss_nil)
  (pss_cons (ps_if (pt_val (pe_callB call_isi (by rfl) B.isinstance (by decide +kernel) (pa_cons (pv 0) (pa_cons (pe_bltn (v := .ty "dict") (by rfl) B.dict (by decide +kernel) rfl) pa_nil))))
  (pss_cons (ps_set (i := 1) sc__law_copied.nd rfl (by first | exact Or.inl rfl | exact Or.inr rfl) pe_dnewK)
  (pss_cons (ps_lock (ps_for PassesOwn.never rfl (pi_keys (pv 0)) (pg_name (i := 2) sc__law_copied.nd rfl (by first | exact Or.inl rfl | exact Or.inr rfl))
  (pss_one (ps_dput hu (pv 1) (pv 2) (pe_has G_copied hr (pa_cons (pe_dget hu (pv 0) (pv 2) (fun _ _ => rfl)) pa_nil)) rfl))))
  (pss_one (ps_ret (pv 1)))))
  pss_nil)
  (pss_one (ps_ret (pv 0)))))), ?_⟩
    cases d with
    | tuple ds =>
      cases hx with
      | @tup m p xs _ rx lx ax =>
        have hx1 : Dt S true H (m + 1) (.ref p) (.tuple ds) := .tup rx lx ax
        refine ⟨_, rfl, _, _, _, _, _, rfl, .ty _, hx1.ty, kit_ty (kb_tuple _), _, rfl, iteT ?_⟩
        refine ⟨_, rfl, p, rfl, ⟨_, .inl (.inl rx)⟩, fun D hD => ?_⟩
        refine lc_it (walk_tup (xs := xs)) (fun i H' => ∃ ys, H' D = some (.lst ys) ∧ DtAll (fun a => H a = none ∧ a ≠ D) true H' m ys (ds.take i) ∧ ys.length = i ∧ Kp [] H H') ⟨[], upd_same, .nil, rfl, Kp.new hD⟩ ?_ ?_ ?_
        · rintro i H2 hi ⟨ys, h2, d2, l2, k2⟩
          exact .inl (.inl (k2.tp _ _ rx))
        · rintro i u H2 H3 hi ⟨ys, h2, d2, l2, k2⟩ ⟨rfl, hu1⟩
          obtain ⟨d, hd, du⟩ := ax.getV hu1
          refine ⟨rfl, _, rfl, S, u, d, rfl, du.keep k2, fun y H4 k4 dy => ?_⟩
          have h4 := k4.at_ _ _ h2 (fun z => nomatch z)
          refine ⟨_, h4, by rw [l2]; exact Nat.lt_of_lt_of_le hi (Nat.le_trans lx.1 (by decide)), _, upd_same, ?_, by simp [l2], (k2.trans k4).late hD⟩
          rw [take_snoc hd]
          have d3 : DtAll (fun a => H a = none ∧ a ≠ D) true H4 m ys (ds.take i) := d2.keep k4
          have d4 : Dt (fun a => H a = none ∧ a ≠ D) true H4 m y d := dy.imp fun a ha => ⟨k2.same.free ha, fun z => by rw [z, h2] at ha; cases ha⟩
          exact (d3.append (.cons d4 .nil)).keepS (fun a o ha e => by rw [upd_ne ha.2]; exact e) fun _ h => h
        · rintro H2 ⟨ys, h2, d2, l2, k2⟩
          refine ⟨D, ys, rfl, .inl ⟨SqL.of h2, fun l hl => ?_⟩⟩
          have el : ds.length = xs.length := ax.len.symm
          rw [← el, List.take_length] at d2
          refine k _ _ (k2.snoc hl) (.tup upd_same ⟨by rw [l2]; exact lx.1, k2.same.free hl⟩ ?_)
          exact (d2.keep (Kp.new hl)).imp fun a h => h.1
    | list ds =>
      cases hx with
      | @lst m p xs _ rx lx ax =>
        have hx1 : Dt S true H (m + 1) (.ref p) (.list ds) := .lst rx lx ax
        refine ⟨_, rfl, _, _, _, _, _, rfl, .ty _, hx1.ty, kit_ty (kb_tuple _), _, rfl, iteF ?_⟩
        refine ⟨_, rfl, _, _, _, _, _, rfl, .ty _, hx1.ty, kit_ty (kb_list _), _, rfl, iteT ?_⟩
        refine ⟨_, rfl, p, rfl, ⟨_, .inl rx⟩, fun D hD => ?_⟩
        refine lc_it (walk_list (xs := xs)) (fun i H' => ∃ ys, H' D = some (.lst ys) ∧ DtAll (fun a => H a = none ∧ a ≠ D) true H' m ys (ds.take i) ∧ ys.length = i ∧ Kp [] H H') ⟨[], upd_same, .nil, rfl, Kp.new hD⟩ ?_ ?_ ?_
        · rintro i H2 hi ⟨ys, h2, d2, l2, k2⟩
          exact .inl (k2.rd (fun z => nomatch z) rx)
        · rintro i u H2 H3 hi ⟨ys, h2, d2, l2, k2⟩ ⟨rfl, hu1⟩
          obtain ⟨d, hd, du⟩ := ax.getV hu1
          refine ⟨rfl, _, rfl, S, u, d, rfl, du.keep k2, fun y H4 k4 dy => ?_⟩
          have h4 := k4.at_ _ _ h2 (fun z => nomatch z)
          refine ⟨_, h4, by rw [l2]; exact Nat.lt_of_lt_of_le hi (Nat.le_trans lx.1 (by decide)), _, upd_same, ?_, by simp [l2], (k2.trans k4).late hD⟩
          rw [take_snoc hd]
          have d3 : DtAll (fun a => H a = none ∧ a ≠ D) true H4 m ys (ds.take i) := d2.keep k4
          have d4 : Dt (fun a => H a = none ∧ a ≠ D) true H4 m y d := dy.imp fun a ha => ⟨k2.same.free ha, fun z => by rw [z, h2] at ha; cases ha⟩
          exact (d3.append (.cons d4 .nil)).keepS (fun a o ha e => by rw [upd_ne ha.2]; exact e) fun _ h => h
        · rintro H2 ⟨ys, h2, d2, l2, k2⟩
          have el : ds.length = xs.length := ax.len.symm
          rw [← el, List.take_length] at d2
          exact k _ _ k2 (.lst (.inl h2) ⟨by rw [l2]; exact lx.1, hD⟩ (d2.imp fun a h => h.1))
    | dict ds =>
      cases hx with
      | @dic m p kvs _ rx lx ax =>
        have hx1 : Dt S true H (m + 1) (.ref p) (.dict ds) := .dic rx lx ax
        have rx' : H p = some (.dK kvs) := rx
        refine ⟨_, rfl, _, _, _, _, _, rfl, .ty _, hx1.ty, kit_ty (kb_tuple _), _, rfl, iteF ?_⟩
        refine ⟨_, rfl, _, _, _, _, _, rfl, .ty _, hx1.ty, kit_ty (kb_list _), _, rfl, iteF ?_⟩
        refine ⟨_, rfl, _, _, _, _, _, rfl, .ty _, hx1.ty, kit_ty (kb_dict _), _, rfl, iteT ?_⟩
        intro D hD
        have pD : p ≠ D := ne_of_none rx' hD
        have rx2 : upd H D (.dK []) p = some (.dK kvs) := by rw [upd_ne pD]; exact rx'
        have k0 : Kp [] H (upd H D (.dK [])) := Kp.new hD
        refine ⟨p, _, rx2, trivial, fun od => ?_⟩
        have sl : Sm H (upd H p (.frz od (.dK kvs))) := Sm.lock rx' (fun _ _ z => by cases z) (fun _ z => by cases z)
        have kl : Kp [] (upd H p (.frz od (.dK kvs))) (upd (upd H D (.dK [])) p (.frz od (.dK kvs))) := by
          rw [upd_comm (Ne.symm pD)]
          exact Kp.new (by rw [upd_ne (Ne.symm pD)]; exact hD)
        refine ⟨_, rfl, p, od, rfl, .inl ⟨kvs, upd_same, ?_⟩⟩
        have fin : ∀ H2 : Hp, Kp [] (upd H p (.frz od (.dK kvs))) H2 → Kp [] H (upd H2 p (.dK kvs)) := fun H2 k2 => ⟨fun a o e _ => by
            by_cases z : a = p
            · rw [z, upd_same]; rw [z, rx'] at e; exact e
            · rw [upd_ne z]; exact k2.at_ a o (by rw [upd_ne z]; exact e) (fun z => nomatch z), fun a xs e => by
            by_cases z : a = p
            · rw [z, rx'] at e; cases e
            · rw [upd_ne z]; exact k2.tp a xs (by rw [upd_ne z]; exact e)⟩
        have hDl : upd H p (.frz od (.dK kvs)) D = none := by rw [upd_ne (Ne.symm pD)]; exact hD
        refine for_it (walk_keys (kvs := kvs)) (fun i σ H' => ∃ (fs : List (Key × V)) (v : Option V), σ = [some (.ref p), some (.ref D), v, none] ∧ H' D = some (.dK fs) ∧ DtKV (fun a => H a = none ∧ a ≠ D) true H' m fs (ds.take i) ∧ fs.map (·.1) = (kvs.map (·.1)).take i ∧ Kp [] (upd H p (.frz od (.dK kvs))) H')
          ⟨[], none, rfl, by rw [upd_ne (Ne.symm pD), upd_same], .nil, rfl, kl⟩ ?_ ?_ ?_
        · rintro i σ H2 hi ⟨fs, v, rfl, h2, d2, l2, k2⟩
          exact k2.at_ p _ upd_same (fun z => nomatch z)
        · rintro i xk σ H2 H3 hi ⟨fs, v, rfl, h2, d2, l2, k2⟩ ⟨rfl, kk, vv, hk, rfl⟩
          obtain ⟨e, hd, du, hs⟩ := ax.getV hk
          have hv := valV_at lx.1.2 hk
          have rd1 : Rd H3 p (.dK kvs) := .inr ⟨od, k2.at_ p _ upd_same (fun z => nomatch z)⟩
          refine ⟨_, rfl, _, rfl, p, vv, rfl, .inl ⟨kvs, kk, rd1, rfl, hv.symm⟩, ?_⟩
          refine ⟨S, vv, e, rfl, (du.lock rx' lx ax.weak hs).keep k2, fun y H4 k4 dy => ?_⟩
          have h4 := k4.at_ _ _ h2 (fun z => nomatch z)
          have hkk : (kvs.map (·.1))[i]? = some kk := by rw [List.getElem?_map, hk]; rfl
          have lf : fs.length ≤ 1000000 := by
            have := congrArg List.length l2
            rw [List.length_map, List.length_take, List.length_map] at this
            have := lx.1.1
            omega
          refine ⟨_, rfl, _, rfl, D, _, rfl, DPut.k h4 (Nat.lt_of_le_of_lt lf (by decide)), ?_⟩
          have hn : valV fs kk = none := valV_out (by rw [l2]; exact notin_take lx.1.2 hkk)
          rw [putK_new y hn]
          refine ⟨_, _, rfl, upd_same, ?_, ?_, (k2.trans k4).late hDl⟩
          · rw [take_snoc hd]
            have d3 : DtKV (fun a => H a = none ∧ a ≠ D) true H4 m fs (ds.take i) := d2.keep k4
            have d4 : Dt (fun a => H a = none ∧ a ≠ D) true H4 m y e := dy.imp fun a ha => ⟨by
              have h0 := k2.same.free ha
              by_cases z : a = p
              · rw [z, upd_same] at h0; cases h0
              · rw [upd_ne z] at h0; exact h0, fun z => by rw [z, h2] at ha; cases ha⟩
            exact (d3.append (.cons d4 .nil)).keepS (fun a o ha e => by rw [upd_ne ha.2]; exact e) fun _ h => h
          · rw [List.map_append, l2, take_snoc hkk]; rfl
        · rintro σ H2 ⟨fs, v, rfl, h2, d2, l2, k2⟩
          refine ⟨k2.at_ p _ upd_same (fun z => nomatch z), ?_⟩
          refine ⟨_, rfl, ?_⟩
          have el : ds.length = kvs.length := ax.len.symm
          rw [← el, List.take_length] at d2
          have e2 : fs.map (·.1) = kvs.map (·.1) := by rw [l2]; exact List.take_of_length_le (by rw [List.length_map]; exact Nat.le_refl _)
          refine k _ _ (fin _ k2) (.dic (show upd H2 p _ D = _ by rw [upd_ne (Ne.symm pD)]; exact h2) ⟨⟨?_, by rw [e2]; exact lx.1.2⟩, hD⟩ ?_)
          · have := congrArg List.length e2
            rw [List.length_map, List.length_map] at this
            rw [this]; exact lx.1.1
          · exact d2.keepS (fun a o ha e => by rw [upd_ne (fun z => by rw [z, rx'] at ha; cases ha.1)]; exact e) fun a h => h.1
    | none =>
      cases hx
      refine ⟨_, rfl, _, _, _, _, _, rfl, .ty _, .base .non, kit_ty (kb_tuple .none), _, rfl, iteF ?_⟩
      refine ⟨_, rfl, _, _, _, _, _, rfl, .ty _, .base .non, kit_ty (kb_list .none), _, rfl, iteF ?_⟩
      refine ⟨_, rfl, _, _, _, _, _, rfl, .ty _, .base .non, kit_ty (kb_dict .none), _, rfl, iteF ?_⟩
      exact ⟨_, rfl, k _ _ (Kp.refl _) .non⟩
    | bool b =>
      cases hx
      refine ⟨_, rfl, _, _, _, _, _, rfl, .ty _, .base (.bl _), kit_ty (kb_tuple (.bool b)), _, rfl, iteF ?_⟩
      refine ⟨_, rfl, _, _, _, _, _, rfl, .ty _, .base (.bl _), kit_ty (kb_list (.bool b)), _, rfl, iteF ?_⟩
      refine ⟨_, rfl, _, _, _, _, _, rfl, .ty _, .base (.bl _), kit_ty (kb_dict (.bool b)), _, rfl, iteF ?_⟩
      exact ⟨_, rfl, k _ _ (Kp.refl _) (.bl b)⟩
    | int b =>
      cases hx
      refine ⟨_, rfl, _, _, _, _, _, rfl, .ty _, .base (.int _), kit_ty (kb_tuple (.int b)), _, rfl, iteF ?_⟩
      refine ⟨_, rfl, _, _, _, _, _, rfl, .ty _, .base (.int _), kit_ty (kb_list (.int b)), _, rfl, iteF ?_⟩
      refine ⟨_, rfl, _, _, _, _, _, rfl, .ty _, .base (.int _), kit_ty (kb_dict (.int b)), _, rfl, iteF ?_⟩
      exact ⟨_, rfl, k _ _ (Kp.refl _) (.int b)⟩
    | str b =>
      cases hx with
      | str _ hz =>
      refine ⟨_, rfl, _, _, _, _, _, rfl, .ty _, .base (.str _), kit_ty (kb_tuple (.str b)), _, rfl, iteF ?_⟩
      refine ⟨_, rfl, _, _, _, _, _, rfl, .ty _, .base (.str _), kit_ty (kb_list (.str b)), _, rfl, iteF ?_⟩
      refine ⟨_, rfl, _, _, _, _, _, rfl, .ty _, .base (.str _), kit_ty (kb_dict (.str b)), _, rfl, iteF ?_⟩
      exact ⟨_, rfl, k _ _ (Kp.refl _) (.str b hz)⟩
theorem ok_copied (B : Bi mg) (D : Dfn K mg "_law_copied" s__law_copied ["_law_thing"]) : ∀ n : Nat, Has P w K mg base CX0 "_law_copied" ["_law_thing"] (n + 1) (spCopied n)
  | 0 => step_copied B D 0 D.none
  | n + 1 => step_copied B D (n + 1) (ok_copied B D n)
end
end Fm

namespace Fm
open PySem PySem.Spec PyProof.Rows L2
/-- some data, new -/
def spOdd : Sp := fun vs H Q _ => ∃ (b c : Addr), vs = [.ref b] ∧ Bag H b c ∧ ∀ v d H', Bag H' b c → Kp [b] H H' → Dt (fun a => H a = none) true H' 3 v d → Q v H'
theorem len_le {w : Str} (n : Nat) (h : w.length = n) (hn : n ≤ 1000000) : w.length ≤ 1000000 := by rw [h]; exact hn
section
variable {P : Program} {w : World} {K : PySem.W.Frag} {mg : Str → Option Value} {base : Heap}
theorem ok_odd (B : Bi mg) (D : Dfn K mg "_law_odd" s__law_odd ["_law_bag_here"]) (G_pick : Has P w K mg base CX0 "_law_pick" ["_law_bag_here", "_law_many"] 1 spPick) :
    Has P w K mg base CX0 "_law_odd" ["_law_bag_here"] 2 spOdd := by
  refine D.has sc__law_odd (fun vs H Q E h => ?_) (fun f cdv A outer s H vs Q E hr h => ?_)
  · obtain ⟨b, c, rfl, _⟩ := h; rfl
  · obtain ⟨b, c, rfl, BG, k⟩ := h
    refine ⟨_, (pss_cons (ps_set (i := 1) sc__law_odd.nd rfl (by first | exact Or.inl rfl | exact Or.inr rfl) (pe_op op_sub (pe_has G_pick hr (pa_cons (pv 0) (pa_cons pe_int pa_nil))) pe_int))
  (C8.pss_cut (ps_set (i := 2) sc__law_odd.nd rfl (by first | exact Or.inl rfl | exact Or.inr rfl) (pe_lst (pa_cons pe_non (pa_cons pe_bl (pa_cons pe_bl (pa_cons pe_str (pa_cons pe_str (pa_cons pe_str (pa_cons pe_str (pa_cons pe_str (pa_cons pe_str (pa_cons (pe_tup pa_nil) (pa_cons (pe_lst pa_nil) (pa_cons pe_dnewK (pa_cons (pe_disp (pps_cons pe_str (pe_lst (pa_cons pe_int pa_nil)) pps_nil) (by rfl) (by rfl) (fun z => by cases z) (by decide)) (pa_cons (pe_tup (pa_cons pe_str (pa_cons pe_str (pa_cons pe_str pa_nil)))) (pa_cons (pe_lst (pa_cons pe_int (pa_cons pe_int pa_nil))) pa_nil)))))))))))))))))
  (C8.pss_cut (ps_expr (pe_bm PySem.F.plainAttrs_list PySem.F.slot_list_extend PySem.F.type_list_extend mt_extend (pv 2) (pa_cons (pe_lst (pa_cons (pe_op op_add (pe_op op_pow pe_int pe_int) pe_int) (pa_cons (pe_op op_sub (pe_op op_sub pe_int (pe_op op_pow pe_int pe_int)) pe_int) (pa_cons (pe_op op_add (pe_op op_pow pe_int pe_int) (pv 1)) (pa_cons (pv 1) (pa_cons (pe_tup (pa_cons (pv 1) (pa_cons (pe_tup pa_nil) pa_nil))) (pa_cons (pe_lst (pa_cons (pe_lst (pa_cons (pv 1) pa_nil)) pa_nil)) (pa_cons (pe_tup (pa_cons pe_str pa_nil)) (pa_cons pe_str pa_nil))))))))) pa_nil)))
  (pss_one (ps_ret (pe_ix ix_list (pv 2) (pe_has G_pick hr (pa_cons (pv 0) (pa_cons (pe_callB call_len (by rfl) B.len PySem.boot_len (pa_cons (pv 2) pa_nil)) pa_nil))) (fun _ _ => rfl))))))), ?_⟩
    refine ⟨_, rfl, b, c, 9, rfl, BG, by decide, by decide, fun r H1 r0 r1 B1 k1 => ?_⟩
    refine ⟨_, _, rfl, rfl, ?_⟩
    obtain ⟨z, hz⟩ : ∃ z, z = r - 4 := ⟨_, rfl⟩
    -- the first row of things
    refine ⟨fun σ H' => ∃ (l : Addr) (xs : List V) (ds : List PyData), σ = [some (.ref b), some (.int z), some (.ref l)] ∧ H' l = some (.lst xs) ∧ xs.length = 15 ∧ H1 l = none ∧ DtAll (fun a => H1 a = none ∧ a ≠ l) true H' 2 xs ds ∧ Kp [] H1 H', ?_, ?_⟩
    · refine ⟨by show 0 ≤ sizeLine; decide, fun p1 n1 => ⟨by show 0 ≤ sizeLine; decide, fun p2 n2 p3 n3 p4 n4 => ⟨by show 1 ≤ sizeLine; decide, fun p5 n5 => ?_⟩⟩⟩
      have a1 : Dt (fun a => H1 a = none) true _ 2 (.ref p1) (.tuple []) := .tup (upd_same (H := H1) (o := .tup [])) ⟨Nat.zero_le _, n1⟩ .nil
      have k2 : Kp [] H1 _ := Kp.new (o := .tup []) n1
      have a2 : Dt (fun a => H1 a = none) true _ 2 (.ref p2) (.list []) := .lst (.inl (upd_same (H := upd H1 p1 (.tup [])) (o := .lst []))) ⟨Nat.zero_le _, k2.same.free n2⟩ .nil
      have a1 := a1.keep (Kp.new (o := .lst []) n2)
      have k3 := k2.snoc (o := .lst []) n2
      have a3 : Dt (fun a => H1 a = none) true _ 2 (.ref p3) (.dict []) := .dic (show upd _ p3 _ p3 = _ from upd_same (H := upd (upd H1 p1 (.tup [])) p2 (.lst [])) (o := .dK [])) ⟨⟨Nat.zero_le _, List.nodup_nil⟩, k3.same.free n3⟩ .nil
      have a1 := a1.keep (Kp.new (o := .dK []) n3)
      have a2 := a2.keep (Kp.new (o := .dK []) n3)
      have k4 := k3.snoc (o := .dK []) n3
      generalize hc : upd (upd (upd H1 p1 (.tup [])) p2 (.lst [])) p3 (.dK []) = Hc at a1 a2 a3 k4 n4 n5
      have kd : Kp [] Hc (upd (upd (upd Hc p4 (.dK [])) p5 (.lst [.int 1])) p4 (.dK [(.inr "a", .ref p5)])) := ((Kp.new n4).snoc n5).late n4
      have n54 : p5 ≠ p4 := fun z => by rw [z, upd_same] at n5; cases n5
      have m4 : H1 p4 = none := k4.same.free n4
      have m5 : H1 p5 = none := by rw [upd_ne n54] at n5; exact k4.same.free n5
      have a5 : Dt (fun a => H1 a = none) true (upd (upd (upd Hc p4 (.dK [])) p5 (.lst [.int 1])) p4 (.dK [(.inr "a", .ref p5)])) 1 (.ref p5) (.list [.int 1]) := .lst (.inl (by rw [upd_ne n54, upd_same])) ⟨by simp, m5⟩ (.cons (.int 1) .nil)
      have a4 : Dt (fun a => H1 a = none) true (upd (upd (upd Hc p4 (.dK [])) p5 (.lst [.int 1])) p4 (.dK [(.inr "a", .ref p5)])) 2 (.ref p4) (.dict [(keyD (.inr "a"), .list [.int 1])]) := .dic (show upd _ p4 _ p4 = _ from upd_same) ⟨⟨by simp, by simp⟩, m4⟩ (.cons a5 .nil)
      have a1 := a1.keep kd
      have a2 := a2.keep kd
      have a3 := a3.keep kd
      have k5 := k4.trans kd
      subst hc
      refine ⟨by rw [upd_ne (Ne.symm n54), upd_same], [(.inr "a", .ref p5)], rfl, by simp, ?_⟩
      refine ⟨by show 3 ≤ sizeLine; decide, fun p6 n6 => ?_⟩
      change (upd (upd (upd (upd (upd (upd H1 p1 (.tup [])) p2 (.lst [])) p3 (.dK [])) p4 (.dK [])) p5 (.lst [.int 1])) p4 (.dK [(.inr "a", .ref p5)])) p6 = none at n6
      generalize hd : (upd (upd (upd (upd (upd (upd H1 p1 (.tup [])) p2 (.lst [])) p3 (.dK [])) p4 (.dK [])) p5 (.lst [.int 1])) p4 (.dK [(.inr "a", .ref p5)])) = Hd at a1 a2 a3 a4 k5 n6
      have a6 : Dt (fun a => H1 a = none) true (upd Hd p6 (.tup [.str "of", .str "a", .str "b"])) 2 (.ref p6) (.tuple [.str "of", .str "a", .str "b"]) := .tup upd_same ⟨by simp, k5.same.free n6⟩ (.cons (.str _ (by decide +kernel)) (.cons (.str _ (by decide +kernel)) (.cons (.str _ (by decide +kernel)) .nil)))
      have ky : Kp [] Hd (upd Hd p6 (.tup [.str "of", .str "a", .str "b"])) := Kp.new n6
      subst hd
      refine ⟨by show 2 ≤ sizeLine; decide, fun p7 n7 => ?_⟩
      change (upd (upd (upd (upd (upd (upd (upd H1 p1 (.tup [])) p2 (.lst [])) p3 (.dK [])) p4 (.dK [])) p5 (.lst [.int 1])) p4 (.dK [(.inr "a", .ref p5)])) p6 (.tup [.str "of", .str "a", .str "b"])) p7 = none at n7
      have k6 := k5.trans ky
      have a1 := a1.keep ky
      have a2 := a2.keep ky
      have a3 := a3.keep ky
      have a4 := a4.keep ky
      generalize hd : (upd (upd (upd (upd (upd (upd (upd H1 p1 (.tup [])) p2 (.lst [])) p3 (.dK [])) p4 (.dK [])) p5 (.lst [.int 1])) p4 (.dK [(.inr "a", .ref p5)])) p6 (.tup [.str "of", .str "a", .str "b"])) = He at a1 a2 a3 a4 a6 k6 n7
      have a7 : Dt (fun a => H1 a = none) true (upd He p7 (.lst [.int 1, .int 2])) 2 (.ref p7) (.list [.int 1, .int 2]) := .lst (.inl upd_same) ⟨by simp, k6.same.free n7⟩ (.cons (.int _) (.cons (.int _) .nil))
      have kz : Kp [] He (upd He p7 (.lst [.int 1, .int 2])) := Kp.new n7
      have k7 := k6.trans kz
      have a1 := a1.keep kz
      have a2 := a2.keep kz
      have a3 := a3.keep kz
      have a4 := a4.keep kz
      have a6 := a6.keep kz
      subst hd
      refine ⟨by show 15 ≤ sizeLine; decide, fun l nl => ?_⟩
      have all : DtAll (fun a => H1 a = none) true _ 2 [.non, .bl true, .bl false, .str "", .str "Ab", .str "a b", .str "abcdefghi", .str "a_b", .str "z1", .ref p1, .ref p2, .ref p3, .ref p4, .ref p6, .ref p7] _ :=
        .cons .non (.cons (.bl _) (.cons (.bl _) (.cons (.str _ (by decide +kernel)) (.cons (.str _ (by decide +kernel)) (.cons (.str _ (by decide +kernel)) (.cons (.str _ (by decide +kernel)) (.cons (.str _ (by decide +kernel)) (.cons (.str _ (by decide +kernel)) (.cons a1 (.cons a2 (.cons a3 (.cons a4 (.cons a6 (.cons a7 .nil))))))))))))))
      have all' := all.inH.keepS (S' := fun a => H1 a = none ∧ a ≠ l) (H' := upd _ l (.lst [.non, .bl true, .bl false, .str "", .str "Ab", .str "a b", .str "abcdefghi", .str "a_b", .str "z1", .ref p1, .ref p2, .ref p3, .ref p4, .ref p6, .ref p7])) (fun a o _ e => (upd_ne (ne_of_none e nl)).trans e) fun a h => ⟨h.1, fun z => h.2 (by rw [z]; exact nl)⟩
      exact ⟨l, _, _, by rw [hz]; rfl, upd_same, rfl, k7.same.free nl, all', k7.snoc nl⟩
    · rintro σ' H2 ⟨l, xs, ds, rfl, h2, l2, nl, d2, k2⟩
      refine ⟨fun σ H' => ∃ (l : Addr) (xs : List V) (ds : List PyData), σ = [some (.ref b), some (.int z), some (.ref l)] ∧ H' l = some (.lst xs) ∧ xs.length = 23 ∧ H1 l = none ∧ DtAll (fun a => H1 a = none ∧ a ≠ l) true H' 3 xs ds ∧ Kp [] H1 H', ?_, ?_⟩
      · refine ⟨_, rfl, .inl ⟨rfl, _, SqL.of h2⟩, ?_⟩
        refine ⟨_, _, rfl, rfl, ⟨by decide, by decide, by decide⟩, _, _, rfl, rfl, ?_⟩
        refine ⟨_, _, rfl, rfl, ⟨by decide, by decide, by decide⟩, _, _, rfl, rfl, _, _, rfl, rfl, ?_⟩
        refine ⟨_, _, rfl, rfl, ⟨by decide, by decide, by decide⟩, _, rfl, _, _, rfl, rfl, _, rfl, ?_⟩
        -- (number, ())
        refine ⟨_, rfl, by show 0 ≤ sizeLine; decide, fun p1 n1 => ⟨by show 2 ≤ sizeLine; decide, fun p2 n2 => ?_⟩⟩
        have c1 : Dt (fun a => H1 a = none ∧ a ≠ l) true (upd H2 p1 (.tup [])) 1 (.ref p1) (.tuple []) := .tup upd_same ⟨Nat.zero_le _, k2.same.free n1, Ne.symm (ne_of_none h2 n1)⟩ .nil
        have k3 := k2.snoc (o := .tup []) n1
        have c2 : Dt (fun a => H1 a = none ∧ a ≠ l) true (upd (upd H2 p1 (.tup [])) p2 (.tup [.int z, .ref p1])) 2 (.ref p2) (.tuple [.int z, .tuple []]) := .tup upd_same ⟨by simp, k3.same.free n2, Ne.symm (ne_of_none ((Kp.new (o := .tup []) n1).at_ (ms := []) l _ h2 (fun z => nomatch z)) n2)⟩ (.cons (.int _) (.cons (c1.keep (Kp.new n2)) .nil))
        have k4 := k3.snoc (o := .tup [.int z, .ref p1]) n2
        have kk : Kp [] H2 (upd (upd H2 p1 (.tup [])) p2 (.tup [.int z, .ref p1])) := (Kp.new n1).snoc n2
        -- [[number]]
        refine ⟨_, rfl, by show 1 ≤ sizeLine; decide, fun p3 n3 => ⟨by show 1 ≤ sizeLine; decide, fun p4 n4 => ?_⟩⟩
        generalize hc : upd (upd H2 p1 (.tup [])) p2 (.tup [.int z, .ref p1]) = Hc at c2 k4 kk n3 n4
        have c3 : Dt (fun a => H1 a = none ∧ a ≠ l) true (upd Hc p3 (.lst [.int z])) 1 (.ref p3) (.list [.int z]) := .lst (.inl upd_same) ⟨by simp, k4.same.free n3, Ne.symm (ne_of_none (kk.at_ (ms := []) l _ h2 (fun z => nomatch z)) n3)⟩ (.cons (.int _) .nil)
        have k5 := k4.snoc (o := .lst [.int z]) n3
        have c4 : Dt (fun a => H1 a = none ∧ a ≠ l) true (upd (upd Hc p3 (.lst [.int z])) p4 (.lst [.ref p3])) 2 (.ref p4) (.list [.list [.int z]]) := .lst (.inl upd_same) ⟨by simp, k5.same.free n4, Ne.symm (ne_of_none ((kk.snoc (o := .lst [.int z]) n3).at_ (ms := []) l _ h2 (fun z => nomatch z)) n4)⟩ (.cons (c3.keep (Kp.new n4)) .nil)
        have k6 := k5.snoc (o := .lst [.ref p3]) n4
        have kk2 : Kp [] Hc (upd (upd Hc p3 (.lst [.int z])) p4 (.lst [.ref p3])) := (Kp.new n3).snoc n4
        have c2 := c2.keep kk2
        have kk := kk.trans kk2
        subst hc
        refine ⟨by show 1 ≤ sizeLine; decide, fun p5 n5 => ?_⟩
        generalize hc : upd (upd (upd (upd H2 p1 (.tup [])) p2 (.tup [.int z, .ref p1])) p3 (.lst [.int z])) p4 (.lst [.ref p3]) = Hd at c2 c4 k6 kk n5
        have c5 : Dt (fun a => H1 a = none ∧ a ≠ l) true (upd Hd p5 (.tup [.str "scan"])) 2 (.ref p5) (.tuple [.str "scan"]) := .tup upd_same ⟨by simp, k6.same.free n5, Ne.symm (ne_of_none (kk.at_ (ms := []) l _ h2 (fun z => nomatch z)) n5)⟩ (.cons (.str _ (by decide +kernel)) .nil)
        have k7 := k6.snoc (o := .tup [.str "scan"]) n5
        have kk3 : Kp [] Hd (upd Hd p5 (.tup [.str "scan"])) := Kp.new n5
        have c2 := c2.keep kk3
        have c4 := c4.keep kk3
        have kk := kk.trans kk3
        subst hc
        refine ⟨by show 8 ≤ sizeLine; decide, fun p6 n6 => ?_⟩
        generalize hc : upd (upd (upd (upd (upd H2 p1 (.tup [])) p2 (.tup [.int z, .ref p1])) p3 (.lst [.int z])) p4 (.lst [.ref p3])) p5 (.tup [.str "scan"]) = He at c2 c4 c5 k7 kk n6 ⊢
        have hl : He l = some (.lst xs) := kk.at_ _ _ h2 (fun z => nomatch z)
        have l6 : l ≠ p6 := ne_of_none hl n6
        refine ⟨l, p6, _, _, rfl, rfl, by rw [upd_ne l6]; exact hl, upd_same, by rw [l2]; show 15 + 8 ≤ sizeLine; decide, ?_⟩
        have all : DtAll (fun a => H1 a = none ∧ a ≠ l) true He 2 [.int (10 ^ 9 + 1), .int (0 - 10 ^ 9 - 1), .int (10 ^ 40 + z), .int z, .ref p2, .ref p4, .ref p5, .str "none"] _ :=
          .cons (.int _) (.cons (.int _) (.cons (.int _) (.cons (.int _) (.cons c2 (.cons c4 (.cons c5 (.cons (.str _ (by decide +kernel)) .nil)))))))
        have d3 : DtAll (fun a => H1 a = none ∧ a ≠ l) true He 2 xs ds := d2.keep kk
        have both := ((d3.append all).mono (Nat.le_succ 2)).inH.keepS (S' := fun a => H1 a = none ∧ a ≠ l) (H' := upd (upd He p6 (.lst [.int (10 ^ 9 + 1), .int (0 - 10 ^ 9 - 1), .int (10 ^ 40 + z), .int z, .ref p2, .ref p4, .ref p5, .str "none"])) l (.lst (xs ++ [.int (10 ^ 9 + 1), .int (0 - 10 ^ 9 - 1), .int (10 ^ 40 + z), .int z, .ref p2, .ref p4, .ref p5, .str "none"]))) (fun a o h e => by
          rw [upd_ne h.1.2, upd_ne (ne_of_none e n6)]; exact e) (fun a h => h.1)
        exact ⟨l, _, _, rfl, upd_same, by rw [List.length_append, l2]; rfl, nl, both, (k7.snoc n6).late nl⟩
      · rintro σ' H3 ⟨l, xs, ds, rfl, h3, l3, nl, d3, k3⟩
        have B3 := B1.keep0 k3
        refine ⟨_, rfl, _, rfl, _, rfl, _, _, rfl, .inl ⟨_, SqL.of h3, rfl⟩, ?_⟩
        refine ⟨b, c, _, rfl, B3, by rw [l3]; decide, by rw [l3]; decide, fun q H4 q0 q1 B4 k4 => ?_⟩
        have lb : l ≠ b := fun z => by
          obtain ⟨o, ho⟩ := B1.someB
          rw [← z, nl] at ho; cases ho
        have h4 : H4 l = some (.lst xs) := k4.at_ _ _ h3 (by simpa using lb)
        rw [l3] at q1
        have hq : q.toNat < xs.length := by omega
        obtain ⟨u, hu⟩ : ∃ u, xs[q.toNat]? = some u := ⟨xs[q.toNat], List.getElem?_eq_getElem hq⟩
        obtain ⟨d, hd, du⟩ := d3.getV hu
        refine ⟨l, _, q, u, rfl, rfl, SqL.of h4, atI_of q0 hu, ?_⟩
        have kb : Kp [b] H H4 := (k1.trans k3.zero).trans k4
        refine k u d H4 B4 kb (du.keepS (fun a o h e => k4.at_ a o e (by
          intro z
          have e' : a = b := by simpa using z
          obtain ⟨o', ho⟩ := B1.someB
          rw [← e', h.1] at ho; cases ho)) fun a h => ?_)
        exact k1.freeB B1 h.1
end
end Fm

namespace PySem
open PySem.Calls PyProof.Rows
/-- enumerate(v) without a start, v told by how its iterator begins -/
theorem fm_enum_new {v : Value} {o : Obj} {Hv : Heap → Prop} (bg : Begins v o Hv) :
    Meets (Builtin.«enumerate.__new__» ⟨[.type "enumerate", v], []⟩) (fun _ R s => Hv s.heap ∧ R (.ok (.ret (.ref (s.heap.push o).objs.size)))
      { s with heap := (s.heap.push o).push { cls := .type "enumerate", data := .fields #[.none, .bool false, .ref s.heap.objs.size, rawInt 0, .none, .none] } }) := by
  refine .of_wp fun prog w A R s hh => ?_
  rcases s with ⟨hp, gs, dr, tk, os⟩
  rcases hh with ⟨hv, hR⟩
  have sE := sub_enumerate
  have stp : ∀ {A1 : Around} {E1 : Value → Shared → Prop} {Q1 : Value → Shared → Prop}, Q1 (.ref hp.objs.size) ⟨hp.push o, gs, dr, tk, os⟩ → wpAny (model prog w) A1 (pyIter v) Q1 E1 ⟨hp, gs, dr, tk, os⟩ := fun q1 => bg.iter prog w _ _ ⟨hp, gs, dr, tk, os⟩ _ hv q1
  wp_walk using stp
  refine wpAny_stack_any fun _ => wpAny_pure ?_
  split
  · rename_i cc _ _ _ _ _
    cases (cc == Value.type "enumerate") <;> (wp_walk using stp; exact ⟨_, rfl, hR⟩)
  · wp_walk using stp
    exact ⟨_, rfl, hR⟩
theorem fm_call_enum {prog : Program} {w : World} {A : Around} {E : Value → Shared → Prop} {s : Shared} {v : Value} {o : Obj} {Hv : Heap → Prop} {Q : Value → Shared → Prop} (bg : Begins v o Hv) (h1 : Hv s.heap)
    (k : ∀ h', IsEnum h' (s.heap.objs.size + 1) s.heap.objs.size 0 .none → h'.get? s.heap.objs.size = some o → (∀ b u, s.heap.get? b = some u → h'.get? b = some u) → Q (.ref (s.heap.objs.size + 1)) { s with heap := h' }) :
    wpAny (model prog w) A (call (.type "enumerate") [v]) Q E s := by
  refine callType_new F.called_enumerate (by decide) (F.typeCall_enumerate_1 _) (F.newCall_enumerate_1 _) (fun obj => F.args_object_init_2 obj _) F.entry_enumerate_new (fm_enum_new bg) ⟨h1, ?_⟩
  have sz : (s.heap.push o).objs.size = s.heap.objs.size + 1 := Heap.size_push ..
  show _ ∧ _
  rw [sz]
  have ie : IsEnum ((s.heap.push o).push { cls := .type "enumerate", data := .fields #[.none, .bool false, .ref s.heap.objs.size, rawInt 0, .none, .none] }) (s.heap.objs.size + 1) s.heap.objs.size 0 .none := by
    have g := Heap.get?_push_size (s.heap.push o) (o := { cls := .type "enumerate", data := .fields #[.none, .bool false, .ref s.heap.objs.size, rawInt 0, .none, .none] }) rfl
    rw [sz] at g
    exact g
  exact ⟨⟨_, ie, rfl⟩, k _ ie (Heap.get?_push_of_some _ (Heap.get?_push_size _ bg.free)) fun b u e => Heap.get?_push_of_some _ (Heap.get?_push_of_some _ e)⟩
end PySem
namespace Fm
open PySem PySem.Spec PyProof.Rows L2
/-- enumerate(t), t a tuple: each item in a new pair -/
def ItE (K : PySem.W.Frag) (a : Addr) : It :=
  ⟨fun i H => ∃ (xs : List V) (x : V), SqT K H a xs ∧ xs[i]? = some x, fun i H v H' => ∃ T x, v = .ref T ∧ H T = none ∧ H' = upd H T (.tup [.int (i : Nat), x]) ∧ ∀ xs, SqT K H a xs → xs[i]? = some x, fun i H => ∃ xs : List V, SqT K H a xs ∧ xs.length = i⟩
theorem turn_enumT {P : Program} {w : World} {K : PySem.W.Frag} {elts : List Expr} {kk : Nat} {tpos : Pos} (a e it : Addr) (nea : a ≠ it) (nee : e ≠ it) (nae : e ≠ a) :
    Turn P w K (.Tuple elts kk tpos) (ItE K a) [e, it] e (fun i h => (∃ old, IsEnum h e it ((i : Nat) : Int) old) ∧ h.IsTupleIter it a i) where
  mem := by simp
  obj := fun i h st b hb => by
    obtain ⟨⟨old, he⟩, ⟨o, ho, hc, hd⟩⟩ := st
    rcases (show b = e ∨ b = it by simpa using hb) with rfl | rfl
    · exact ⟨_, he, fun v q => nomatch q⟩
    · exact ⟨o, ho, fun v q => by rw [hd] at q; cases q⟩
  keep := fun i h h' st k => let ⟨⟨old, he⟩, hi⟩ := st; ⟨⟨old, k e (by simp) _ he⟩, hi.at fun o q => k it (by simp) o q⟩
  item := by
    intro X hP hw hK hc i pins s σ H E I hf st hg
    subst hP hw hK
    obtain ⟨⟨old, he⟩, hit⟩ := st
    obtain ⟨xs, x, hq, hx⟩ := hg
    obtain ⟨its, rv, p, hz⟩ := I.tuple hq
    obtain ⟨u, hu, ru⟩ := rv.get hx
    have hel : e < s.heap.objs.size := Heap.lt_size he
    have hil : it < s.heap.objs.size := by obtain ⟨_, q, _⟩ := hit; exact Heap.lt_size q
    have hlt : i < its.toArray.size := by
      have := (List.getElem?_eq_some_iff.mp hu).1
      simpa using this
    have Dr := Draws.tuple (prog := X.prog) (w := X.w) (A := X.A.in1) (I.ok.hd hc) it a nea its.toArray
    refine wpAny_pyNext_enum_itemC Dr he ⟨hit, p⟩ hlt nee (by simp [nee, nae]) fun y h1 tk hy ho st1 hT hsz hk => ?_
    have ey : y = u := by
      have h2 : its[i]? = some y := by simpa using hy
      rw [hu] at h2
      exact (Option.some.inj h2).symm
    subst ey
    refine ⟨_, rfl, wpAny_letOwnedTupleGo_enum (s := { s with heap := h1, toks := tk + 1 }) ho fun h2 he2 sb => ?_⟩
    have hT2 : h2.get? s.heap.objs.size = some { cls := .type "tuple", data := .seq #[.int i tk, y] } := (sb.2 _ (Nat.ne_of_gt hel)).trans hT
    have nw : ObjOk X.prog X.w (upd H s.heap.objs.size (.tup [.int (i : Nat), x])) h2 s.heap.objs.size (.tup [.int (i : Nat), x]) :=
      ⟨by show 2 ≤ sizeLine; decide, [.int i tk, y], .cons ⟨_, rfl⟩ (.cons ru .nil), ⟨_, hT2, rfl, _, rfl⟩⟩
    have I1 : Inv X pins σ (upd H s.heap.objs.size (.tup [.int (i : Nat), x])) { s with heap := h2, toks := tk + 1 } :=
      I.turnedNew (ch := [e, it]) (fun b ob hb q => (sb.2 b (fun z => hb (by simp [z]))).trans (hk b ob (fun z => hb (by simp [z])) (fun z => hb (by simp [z])) q)) hf (Nat.le_refl _) nw
    refine ⟨.ref s.heap.objs.size, _, I1, rfl, ⟨_, x, rfl, I.hok.fresh (Nat.le_refl _), rfl, fun ys hy => by rw [I.tuple_inj hy hq]; exact hx⟩, ⟨⟨y, ?_⟩, st1.1.at fun o q => (sb.2 it (Ne.symm nee)).trans q⟩, fun b hb => ?_⟩
    · have e1 : ((i + 1 : Nat) : Int) = (i : Int) + 1 := by omega
      rw [e1]
      exact he2
    · have hb' : b < s.heap.objs.size := by
        rcases (show b = e ∨ b = it by simpa using hb) with rfl | rfl
        · exact hel
        · exact hil
      rw [upd_ne (Nat.ne_of_lt hb')]
      exact (hf b hb).1
  done := by
    intro X hP hw hK hc i pins s σ H E I hf st hg
    subst hP hw hK
    obtain ⟨⟨old, he⟩, hit⟩ := st
    obtain ⟨xs, hq, hx⟩ := hg
    obtain ⟨its, rv, p, hz⟩ := I.tuple hq
    obtain ⟨f0, f1, f2, f3, f4, f5⟩ := hf it (by simp)
    have hl := rv.length
    have Dr := Draws.tuple (prog := X.prog) (w := X.w) (A := X.A.in1) (I.ok.hd hc) it a nea its.toArray
    have ei : i = its.toArray.size := by simp; omega
    refine wpAny_pyNext_enum_endD Dr he ⟨by rw [← ei]; exact hit, p⟩ fun h1 eb => ⟨rfl, I.turned (t' := s.toks) (fun b o hb q => eb b o hb q) f0 f1 f3 f4 f5⟩
  self := fun A i s Q E st h => let ⟨⟨_, he⟩, _⟩ := st; wpAny_pyIter_enum he h
def iEnumT (K : PySem.W.Frag) (ta : TA) : TI := fun σ H R => ta σ H fun vs H1 => ∃ a xs, vs = [.ref a] ∧ SqT K H1 a xs ∧ R (ItE K a) H1
theorem pi_enumT {X : Cx} {e : Expr} {ta : TA} {p pos tpos : Pos} {elts : List Expr} {kk : Nat} (hg : Gl X "enumerate") (hm : X.mg "enumerate" = none) (ha : PA X [e] ta) (hs : starEach [e] X.env = [(false, eval e X.env)] := by rfl) :
    PI X (.Tuple elts kk tpos) (.Call (.Name "enumerate" p) [e] [] pos) (iEnumT X.K ta) := by
  refine ⟨fun pins s σ H R I h => ?_⟩
  refine Call_ (ld_blt I hg hm boot_enumerate (PyProof.Rows.callWith_type1 (thn (ha.run pos pins s σ H _ I h) fun us s1 ⟨vs, H1, I1, r1, q1⟩ => ?_) hs rfl))
  obtain ⟨a, xs, ex, hq, q⟩ := q1
  subst ex
  cases r1 with
  | cons r rr =>
    cases rr
    cases r
    obtain ⟨its, rv, p', hz⟩ := I1.tuple hq
    have hal : a < s1.heap.objs.size := by obtain ⟨_, q, _⟩ := p'; exact Heap.lt_size q
    refine fm_call_enum (begins_tuple a its.toArray) p' fun h' he ho hk => wpAny_pyIter_enum he ?_
    have I2 : Inv X pins σ H1 { s1 with heap := h' } := I1.kept (t' := s1.toks) hk
    refine ⟨s1.heap.objs.size + 1, [s1.heap.objs.size + 1, s1.heap.objs.size], _, _, H1, rfl, I2, turn_enumT a (s1.heap.objs.size + 1) s1.heap.objs.size (Nat.ne_of_lt hal) (Nat.succ_ne_self _) (Nat.ne_of_gt (Nat.lt_succ_of_lt hal)), ⟨⟨.none, he⟩, ⟨_, ho, rfl, rfl⟩⟩, fun b hb => ?_, q⟩
    have hle : s1.heap.objs.size ≤ b := by
      rcases (show b = s1.heap.objs.size + 1 ∨ b = s1.heap.objs.size by simpa using hb) with z | z
      · rw [z]; exact Nat.le_add_right _ _
      · rw [z]; exact Nat.le_refl _
    exact I1.fpOk hle (I1.hok.fresh hle)
/-- one of two ways to walk -/
theorem pi_or {X : Cx} {tg iter : Expr} {w1 w2 : TI} (h1 : PI X tg iter w1) (h2 : PI X tg iter w2) : PI X tg iter (fun σ H R => w1 σ H R ∨ w2 σ H R) := by
  refine ⟨fun pins s σ H R I h => ?_⟩
  rcases h with h | h
  · exact h1.run pins s σ H R I h
  · exact h2.run pins s σ H R I h
theorem walk_enumT {K : PySem.W.Frag} {a : Addr} {xs : List V} : Walk (ItE K a) xs.length (fun H => SqT K H a xs) (YPair (fun i => some (.int (i : Nat))) (fun i => xs[i]?)) := by
  refine ⟨fun i _ hi q => ⟨xs, xs[i], q, by simp [hi]⟩, fun _ q => ⟨xs, q, rfl⟩, fun i H v H' _ q y => ?_⟩
  obtain ⟨T, x, h1, h2, h3, h4⟩ := y
  exact ⟨T, .int (i : Nat), x, h1, h2, h3, rfl, h4 xs q⟩
end Fm

namespace Fm
open PySem PySem.Spec PyProof.Rows L2
/-! ### an own error with one attribute -/
/-- what __init__(self, f) promises: self.f = f -/
def spErr (C : Addr) (f : Str) : Sp := fun vs H Q _ => ∃ (a : Addr) (y : V), vs = [.ref a, y] ∧ H a = some (exo a C none) ∧
  ∀ dx, H dx = none → dx ≠ a → Q .non (upd (upd H dx (exd dx [(f, y)])) a (exo a C (some dx)))
structure Err (P : Program) (w : World) (K : PySem.W.Frag) (mg : Str → Option Value) (base : Heap) (x : Str) (f : Str) (C : Addr) : Prop where
  oex : OexC K C
  gl : mg x = some (.ref C)
  ini : ∃ fI fd, PySem.W.findIn K (.ref C) "__init__" = some (some (.ref fI)) ∧ PySem.W.typeIn K (.ref fI) = some (.type "function") ∧ FnOk P w K mg base CX0 1 fI fd ["self", f] (spErr C f) ∧ Binds K fd ["self", f] []
  no : PySem.W.findIn K (.ref C) f = some none
  xf : XfC K C
theorem heap_err {H : Hp} {a d : Addr} {o1 o2 o3 o4 : HO} (ha : H a = none) (hd : d ≠ a) : upd (del (upd (upd (upd H a o1) d o2) a o3) a) d o4 = upd H d o4 := by
  funext b
  by_cases z : b = d
  · rw [z, upd_same, upd_same]
  · rw [upd_ne z, upd_ne z]
    by_cases y : b = a
    · rw [y, del_same, ha]
    · rw [del_ne y, upd_ne y, upd_ne z, upd_ne y]
/-- the end of C(v): the wish, told of the error's own new dict -/
theorem err_in {C : Addr} {f : Str} {v : V} {H1 : Hp} {a : Addr} {Q : XK} {E : XK} (ha : H1 a = none) (q : ∀ d, H1 d = none → Q (.ref C) (some d) (upd H1 d (.xd [(f, v)]))) :
    spErr C f [.ref a, v] (upd H1 a (exo a C none)) (fun u H2 => u = .non ∧ ∃ (d : Addr) (fs : List (Str × V)), H2 a = some (exo a C (some d)) ∧ H2 d = some (exd d fs) ∧ H1 d = none ∧ Q (.ref C) (some d) (upd (del H2 a) d (.xd fs))) E := by
  refine ⟨a, v, rfl, upd_same, fun dx hdx hne => ⟨rfl, dx, [(f, v)], upd_same, by rw [upd_ne hne, upd_same], ?_, ?_⟩⟩
  · rw [upd_ne hne] at hdx; exact hdx
  · rw [heap_err ha hne]
    rw [upd_ne hne] at hdx
    exact q dx hdx
section
variable {X : Cx}
/-- raise C(e) -/
theorem ps_raiseE {x f : Str} {C : Addr} {a : Expr} {ta : TA} {W : WX} {p pos pos2 : Pos} {k : Nat} (hc : X.calm = true) (T : Err X.prog X.w X.K X.mg X.base x f C) (hr : Room k X.A) (hk : 2 ≤ k) (tk : Takes X W) (ha : PA X [a] ta) (hg : Gl X x := by rfl)
    (hdb : (x == ("__debug__" : Str)) = false := by decide) (he : starEach (a :: []) X.env = (false, eval a X.env) :: starEach [] X.env := by rfl) (hpl : (backTo pos (starEach [] X.env)).any (·.1) = false := by rfl) :
    PS X (.Raise (some (.Call (.Name x p) [a] [] pos)) none pos2) (fun _ σ H => tMkO C (spErr C f) [] ta σ H fun cls d H' => W cls d σ H') := by
  obtain ⟨fI, fd, h1, h2, F, b⟩ := T.ini
  exact ps_raise hc tk (pmk_oex (k := 1) T.oex h1 h2 F (hr.mono hk) b .nil (fun _ _ _ _ _ _ _ z => z.elim) hg T.gl ha hdb he hpl)
end
section
variable {P : Program} {w : World} {K : PySem.W.Frag} {mg : Str → Option Value} {base : Heap}
/-- __init__ of an error whose body is self.f = f -/
theorem ok_err {f : Str} {qual : Str} {C fI : Addr} {fd : FuncData} {st : Stmt} (F : Fun K "__init__" qual st fI fd) (S : FnScope ["self", f] ["self", f] (defScope st)) (ox : OexC K C) (no : PySem.W.findIn K (.ref C) f = some none)
    (hb : ∀ (X : Cx), X.N = ([("self" : Str), f] : List Str) → X.env.scope = defScope st → PSs X (defBody st) (tOst X.K f (tVar 0) (tVar 1))) : FnOk P w K mg base CX0 1 fI fd ["self", f] (spErr C f) := by
  refine F.ok S (fun vs H Q E h => ?_) (fun cdv A outer s H vs Q E hr h => ⟨_, hb _ rfl rfl, ?_⟩)
  · obtain ⟨a, y, rfl, _⟩ := h; rfl
  · obtain ⟨a, y, rfl, ha, k⟩ := h
    exact ⟨_, rfl, _, rfl, a, C, rfl, ox, no, .inl ⟨ha, fun dx h1 h2 => k dx h1 h2⟩⟩
end
end Fm

namespace Fm
open PySem PySem.Spec PyProof.Rows L2
/-! ### the package's own looks at things: rows, names, tables -/
noncomputable def bP (p : Prop) : Bool := @decide p (Classical.propDecidable p)
theorem bP_t {p : Prop} (h : p) : bP p = true := by unfold bP; exact @decide_eq_true p (Classical.propDecidable p) h
theorem bP_f {p : Prop} (h : ¬ p) : bP p = false := by unfold bP; exact @decide_eq_false p (Classical.propDecidable p) h
def NmD (d : PyData) : Prop := ∃ w, d = .str w ∧ IsNm w
def spIsRow : Sp := fun vs H Q _ => ∃ (S : Addr → Prop) (q : Bool) (n : Nat) (x : V) (d : PyData), vs = [x] ∧ Dt S q H n x d ∧ ∀ H', Kp [] H H' → Q (.bl (isRowD d)) H'
def spIsName : Sp := fun vs H Q _ => ∃ (S : Addr → Prop) (q : Bool) (n : Nat) (x : V) (d : PyData), vs = [x] ∧ Dt S q H n x d ∧ Q (.bl (bP (NmD d))) H
/-- a row of lo to hi unlike names -/
def NmsD (lo hi : Nat) (d : PyData) (ws : List Str) : Prop := (d = .list (ws.map .str) ∨ d = .tuple (ws.map .str)) ∧ (∀ w ∈ ws, IsNm w) ∧ ws.Nodup ∧ lo ≤ ws.length ∧ ws.length ≤ hi
def spAreNames : Sp := fun vs H Q _ => ∃ (S : Addr → Prop) (q : Bool) (n : Nat) (x : V) (d : PyData) (lo hi : Nat), vs = [x, .int lo, .int hi] ∧ Dt S q H n x d ∧ ∀ H', Kp [] H H' → Q (.bl (bP (∃ ws, NmsD lo hi d ws))) H'
def TabD (d : PyData) (t : Str × List Str) : Prop := ∃ e, d = .tuple [.str t.1, e] ∧ IsNm t.1 ∧ NmsD 1 4 e t.2
def spIsTable : Sp := fun vs H Q _ => ∃ (S : Addr → Prop) (q : Bool) (n : Nat) (x : V) (d : PyData), vs = [x] ∧ Dt S q H n x d ∧ ∀ H', Kp [] H H' → Q (.bl (bP (∃ t, TabD d t))) H'
theorem abc_mem {c : Nat} : c ∈ abc.cps.toList ↔ 97 ≤ c ∧ c ≤ 122 := by
  constructor
  · intro h
    obtain ⟨n, hn, e⟩ := List.getElem_of_mem h
    rw [abc_size] at hn
    have := abc_at n hn
    rw [List.getElem?_eq_getElem (by rw [abc_size]; exact hn)] at this
    have := Option.some.inj this
    omega
  · intro h
    have := abc_at (c - 97) (by omega)
    have e : 97 + (c - 97) = c := by omega
    rw [e] at this
    exact List.mem_of_getElem? this
theorem DtAll.take {S : Addr → Prop} {q : Bool} {H : Hp} : ∀ {n : Nat} {v : List V} {d : List PyData}, DtAll S q H n v d → ∀ i : Nat, DtAll S q H n (v.take i) (d.take i)
  | _, _, _, .nil, i => by rw [List.take_nil, List.take_nil]; exact .nil
  | _, _, _, .cons a b, 0 => .nil
  | _, _, _, .cons a b, i + 1 => .cons a (DtAll.take b i)
theorem DtAll.strs {S : Addr → Prop} {q : Bool} {H : Hp} {n : Nat} : ∀ {v : List V} {ws : List Str}, DtAll S q H n v (ws.map .str) → v = ws.map V.str
  | [], [], _ => rfl
  | _ :: _, [], h => by cases h
  | [], _ :: _, h => by cases h
  | x :: v, w :: ws, h => by
    cases h with
    | cons a b =>
      cases a
      rw [DtAll.strs b]; rfl
theorem strs_at {us : List Str} {i : Nat} {w : Str} (h : (us.map PyData.str)[i]? = some (.str w)) : us[i]? = some w := by
  rw [List.getElem?_map] at h
  cases e : us[i]? with
  | none => rw [e] at h; cases h
  | some y => rw [e] at h; cases h; rfl
theorem strs_inj : ∀ {us ws : List Str}, us.map PyData.str = ws.map PyData.str → us = ws
  | [], [], _ => rfl
  | [], _ :: _, h => by cases h
  | _ :: _, [], h => by cases h
  | a :: us, b :: ws, h => by
    rw [List.map_cons, List.map_cons] at h
    injection h with h1 h2
    injection h1 with h1
    rw [h1, strs_inj h2]
theorem strs_take {us ws : List Str} {i : Nat} (h : ws.map PyData.str = (us.map PyData.str).take i) : us.take i = ws := by
  rw [← List.map_take] at h
  exact (strs_inj h).symm
theorem cut_take {xs : List V} {i : Nat} (h : i ≤ xs.length) : cutV xs none (some ((i : Nat) : Int)) = xs.take i := by
  have e1 : HT.sIx xs.length xs.length (some ((i : Nat) : Int)) = min i xs.length := HT.sIx_nat _ _ i
  unfold cutV
  rw [e1, HT.sIx_none, List.drop_zero, Nat.sub_zero, Nat.min_eq_left h]
section
variable {P : Program} {w : World} {K : PySem.W.Frag} {mg : Str → Option Value} {base : Heap}
theorem cut_not {n i : Nat} (h : i < n) : ¬ (HT.sIx n 0 none = 0 ∧ HT.sIx n n (some ((i : Nat) : Int)) = n) := by
  rintro ⟨_, e⟩
  rw [HT.sIx_nat] at e
  omega
theorem ok_is_row (B : Bi mg) (D : Dfn K mg "is_row" s_is_row ["thing"]) : Has P w K mg base CX0 "is_row" ["thing"] 1 spIsRow := by
  refine D.has sc_is_row (fun vs H Q E h => ?_) (fun f cdv A outer s H vs Q E hr h => ?_)
  · obtain ⟨S, q, n, x, d, rfl, _⟩ := h; rfl
  · obtain ⟨S, q, n, x, d, rfl, hx, k⟩ := h
    refine ⟨_, (pss_one (ps_ret (pe_callB call_isiT (by rfl) B.isinstance (by decide +kernel) (pa_cons (pv 0) (pa_cons (pe_tup (pa_cons (pe_bltn (v := .ty "list") (by rfl) B.list (by decide +kernel) rfl) (pa_cons (pe_bltn (v := .ty "tuple") (by rfl) B.tuple (by decide +kernel) rfl) pa_nil))) pa_nil))))), ?_⟩
    exact ⟨_, rfl, (by show 2 ≤ sizeLine; decide), fun T hT => ⟨_, T, _, _, _, _, rfl, upd_same, .cons (.ty _) (.cons (.ty _) .nil), (hx.keep (Kp.new hT)).ty, kit_row _, k _ (Kp.new hT)⟩⟩
theorem ok_is_name {tk : Tok} (B : Bi mg) (L : mg "LETTERS" = some (.str abc tk)) (D : Dfn K mg "is_name" s_is_name ["thing"]) : Has P w K mg base CX0 "is_name" ["thing"] 1 spIsName := by
  refine D.has sc_is_name (fun vs H Q E h => ?_) (fun f cdv A outer s H vs Q E hr h => ?_)
  · obtain ⟨S, q, n, x, d, rfl, _⟩ := h; rfl
  · obtain ⟨S, q, n, x, d, rfl, hx, k⟩ := h
    refine ⟨_, (pss_cons (ps_if (PW.pt (pw_or (pt_not (pt_val (pe_callB call_isi (by rfl) B.isinstance (by decide +kernel) (pa_cons (pv 0) (pa_cons (pe_bltn (v := .ty "str") (by rfl) B.str (by decide +kernel) rfl) pa_nil))))) (pw_or1 (pt_not (pt_chain op_le op_le pe_int (pe_callB call_len (by rfl) B.len PySem.boot_len (pa_cons (pv 0) pa_nil)) pe_int)))))
  (pss_one (ps_ret pe_bl))
  pss_nil)
  (pss_cons (ps_for PassesOwn.never rfl (pi_str (pv 0)) (pg_name (i := 1) sc_is_name.nd rfl (by first | exact Or.inl rfl | exact Or.inr rfl))
  (pss_one (ps_if (pt_cmpR op_notIn_sign (pv 1) (pe_glob (v := .str abc) rfl L ⟨_, rfl⟩) (by rfl))
  (pss_one (ps_ret pe_bl))
  pss_nil)))
  (pss_one (ps_ret pe_bl)))), ?_⟩
    refine ⟨_, rfl, _, _, _, _, _, rfl, .ty _, hx.ty, kit_ty (kb_str _), _, rfl, ?_⟩
    cases hx with
    | str z hz =>
      refine iteF ?_
      refine ⟨_, rfl, _, z.length, rfl, ⟨Nat.le_trans hz (by decide), rfl⟩, _, _, rfl, rfl, _, rfl, ?_⟩
      by_cases h1 : 1 ≤ z.length
      · rw [decide_eq_true (show (1 : Int) ≤ (z.length : Int) by omega)]
        refine iteT ?_
        refine ⟨_, _, rfl, rfl, _, rfl, ?_⟩
        by_cases h8 : z.length ≤ 8
        · rw [decide_eq_true (show (z.length : Int) ≤ 8 by omega)]
          refine iteF ?_
          refine ⟨_, rfl, z, rfl, ?_⟩
          refine for_it walk_str (fun i σ H' => (∃ v : Option V, σ = [some (.str z), v]) ∧ H' = H ∧ ∀ j c, j < i → z.cps[j]? = some c → 97 ≤ c ∧ c ≤ 122) ⟨⟨none, rfl⟩, rfl, fun j c h => absurd h (by omega)⟩ (fun _ _ _ _ _ => trivial) ?_ ?_
          · rintro i v σ H1 H2 hi ⟨⟨v0, rfl⟩, rfl, hj⟩ ⟨rfl, c, hc, rfl⟩
            refine ⟨_, rfl, c, abc, rfl, rfl, _, rfl, ?_⟩
            by_cases hm : c ∈ abc.cps.toList
            · rw [decide_eq_true hm]
              refine iteF ?_
              refine ⟨⟨_, rfl⟩, rfl, fun j c' h e => ?_⟩
              by_cases z' : j = i
              · rw [z', hc] at e
                cases e
                exact abc_mem.mp hm
              · exact hj j c' (by omega) e
            · rw [decide_eq_false hm]
              refine iteT ?_
              rw [bP_f] at k
              · exact k
              · rintro ⟨w', e, n1, n2, n3⟩
                cases e
                exact hm (abc_mem.mpr (n3 c (by
                  have : z.cps.toList[i]? = some c := by simpa using hc
                  exact List.mem_of_getElem? this)))
          · rintro σ H1 ⟨⟨v0, rfl⟩, rfl, hj⟩
            rw [bP_t] at k
            · exact k
            · refine ⟨z, rfl, h1, h8, fun c hc => ?_⟩
              obtain ⟨j, hj', e⟩ := List.getElem_of_mem hc
              have hj2 : j < z.cps.size := by simpa using hj'
              exact hj j c hj2 (by rw [← e]; simp [hj2])
        · rw [decide_eq_false (show ¬ (z.length : Int) ≤ 8 by omega)]
          refine iteT ?_
          rw [bP_f] at k
          · exact k
          · rintro ⟨w', e, n1, n2, n3⟩
            cases e
            exact h8 n2
      · rw [decide_eq_false (show ¬ (1 : Int) ≤ (z.length : Int) by omega)]
        refine iteF ?_
        refine ⟨_, rfl, ?_⟩
        refine iteT ?_
        rw [bP_f] at k
        · exact k
        · rintro ⟨w', e, n1, n2, n3⟩
          cases e
          exact h1 n1
    | _ =>
      refine iteT (iteT ?_)
      rw [bP_f] at k
      · exact k
      · rintro ⟨w', e, _⟩
        cases e
theorem ok_are_names (B : Bi mg) (D : Dfn K mg "are_names" s_are_names ["thing", "least", "most"]) (G_is_row : Has P w K mg base CX0 "is_row" ["thing"] 1 spIsRow) (G_is_name : Has P w K mg base CX0 "is_name" ["thing"] 1 spIsName) :
    Has P w K mg base CX0 "are_names" ["thing", "least", "most"] 2 spAreNames := by
  refine D.has sc_are_names (fun vs H Q E h => ?_) (fun f cdv A outer s H vs Q E hr h => ?_)
  · obtain ⟨S, q, n, x, d, lo, hi, rfl, _⟩ := h; rfl
  · obtain ⟨S, q, n, x, d, lo, hi, rfl, hx, k⟩ := h
    refine ⟨_, (pss_cons (ps_if (PW.pt (pw_or (pt_not (pt_val (pe_has G_is_row hr (pa_cons (pv 0) pa_nil)))) (pw_or1 (pt_not (pt_chain op_le op_le (pv 1) (pe_callB call_len (by rfl) B.len PySem.boot_len (pa_cons (pv 0) pa_nil)) (pv 2))))))
  (pss_one (ps_ret pe_bl))
  pss_nil)
  (pss_cons (ps_for PassesOwn.never rfl (pi_or (pi_enum (by rfl) B.enumerate (pa_cons (pv 0) pa_nil)) (pi_enumT (by rfl) B.enumerate (pa_cons (pv 0) pa_nil))) (pg_tup rfl (pgs_cons (pg_name (i := 3) sc_are_names.nd rfl (by first | exact Or.inl rfl | exact Or.inr rfl)) (pgs_cons (pg_name (i := 4) sc_are_names.nd rfl (by first | exact Or.inl rfl | exact Or.inr rfl)) pgs_nil)))
  (pss_one (ps_if (PW.pt (pw_or (pt_not (pt_val (pe_has G_is_name hr (pa_cons (pv 4) pa_nil)))) (pw_or1 (pt_cmpR op_in_seq (pv 4) (pe_slice (sl_list.or sl_tup) (pv 0) po_none (po_some (pv 3))) (by rfl)))))
  (pss_one (ps_ret pe_bl))
  pss_nil)))
  (pss_one (ps_ret pe_bl)))), ?_⟩
    refine ⟨_, rfl, S, q, n, x, d, rfl, hx, fun H1 k1 => ⟨_, rfl, ?_⟩⟩
    have hx1 := hx.keep k1
    by_cases hd : isRowD d = true
    · rw [hd]
      rcases (show (∃ ds, d = .list ds) ∨ ∃ ds, d = .tuple ds by cases d <;> first | exact .inl ⟨_, rfl⟩ | exact .inr ⟨_, rfl⟩ | cases hd) with ⟨ds, rfl⟩ | ⟨ds, rfl⟩
      · -- a list
        cases hx1 with
        | @lst m p xs _ rx lx ax =>
          have hx1 : Dt S q H1 (m + 1) (.ref p) (.list ds) := .lst rx lx ax
          have el : xs.length = ds.length := ax.len
          refine iteF ?_
          refine ⟨_, rfl, _, rfl, _, _, rfl, .inl ⟨_, .inl rx, rfl⟩, _, _, rfl, rfl, _, rfl, ?_⟩
          have no : ∀ {p : Prop}, (∀ ws, NmsD lo hi (.list ds) ws → ds.length = ws.length) := fun {p} ws h => by
            rcases h.1 with e | e
            all_goals first | (cases e; rw [List.length_map]) | cases e
          by_cases h1 : lo ≤ xs.length
          · rw [decide_eq_true (show (lo : Int) ≤ (xs.length : Int) by omega)]
            refine iteT ?_
            refine ⟨_, rfl, _, _, rfl, rfl, _, rfl, ?_⟩
            by_cases h2 : xs.length ≤ hi
            · rw [decide_eq_true (show (xs.length : Int) ≤ (hi : Int) by omega)]
              refine iteF ?_
              refine .inl ⟨_, rfl, p, xs, rfl, .inl rx, ?_⟩
              refine for_it (walk_enum (xs := xs)) (fun i σ H' => (∃ v w : Option V, σ = [some (.ref p), some (.int lo), some (.int hi), v, w]) ∧ Kp [] H1 H' ∧ ∃ ws : List Str, ds.take i = ws.map .str ∧ (∀ w ∈ ws, IsNm w) ∧ ws.Nodup) ⟨⟨none, none, rfl⟩, Kp.refl _, [], rfl, (fun w h => nomatch h), List.nodup_nil⟩ (fun i σ H' _ ⟨_, k2, _⟩ => .inl (k2.rd (fun z => nomatch z) rx)) ?_ ?_
              · rintro i v σ H2 H3 hi' ⟨⟨v0, w0, rfl⟩, k2, ws, e1, e2, e3⟩ ⟨T, a1, y, rfl, hT, rfl, ea, ey⟩
                cases ea
                obtain ⟨dy, hdy, dt⟩ := ax.getV ey
                have k3 : Kp [] H1 (upd H2 T (.tup [.int (i : Nat), y])) := k2.snoc hT
                refine ⟨T, _, rfl, SqT.of upd_same, rfl, _, _, rfl, _, _, rfl, rfl, ?_⟩
                refine ⟨_, rfl, S, q, m, y, dy, rfl, dt.keep k3, _, rfl, ?_⟩
                by_cases hn : NmD dy
                · rw [bP_t hn]
                  refine iteF ?_
                  obtain ⟨w1, rfl, nw⟩ := hn
                  cases dt with
                  | str _ hz =>
                    have et : xs.take i = ws.map V.str := DtAll.strs (by rw [← e1]; exact ax.take i)
                    refine ⟨_, rfl, _, rfl, _, rfl, _, rfl, .inl ⟨p, xs, rfl, .inl (k3.rd (fun z => nomatch z) rx), fun P' hP => ⟨P', _, rfl, .inl (SqL.of upd_same), rfl, by rw [cut_take (by omega), et]; exact flat_strs ws, ?_⟩⟩⟩
                    rw [cut_take (by omega)]
                    rw [et, inV_strs]
                    refine ⟨_, rfl, ?_⟩
                    by_cases hm : w1 ∈ ws
                    · rw [decide_eq_true hm]
                      refine iteT ?_
                      rw [bP_f] at k
                      · exact k _ (k1.trans (k3.snoc hP))
                      · rintro ⟨us, hu⟩
                        have eu : ds = us.map .str := by
                          rcases hu.1 with e | e
                          all_goals first | (cases e; rfl) | cases e
                        have h3 : us[i]? = some w1 := strs_at (eu ▸ hdy)
                        have h4 : us.take i = ws := strs_take (by rw [← e1, eu])
                        exact notin_take hu.2.2.1 h3 (by rw [h4]; exact hm)
                    · rw [decide_eq_false hm]
                      refine iteF ?_
                      refine ⟨⟨_, _, rfl⟩, k3.snoc hP, ws ++ [w1], ?_, ?_, ?_⟩
                      · rw [take_snoc hdy, e1, List.map_append]; rfl
                      · intro w' h
                        rcases List.mem_append.mp h with h | h
                        · exact e2 w' h
                        · rw [List.mem_singleton.mp h]; exact nw
                      · exact nd_snoc e3 hm
                · rw [bP_f hn]
                  refine iteT (iteT ?_)
                  rw [bP_f] at k
                  · exact k _ (k1.trans k3)
                  · rintro ⟨us, hu⟩
                    have eu : ds = us.map .str := by
                      rcases hu.1 with e | e
                      all_goals first | (cases e; rfl) | cases e
                    subst eu
                    rw [List.getElem?_map] at hdy
                    cases e : us[i]? with
                    | none => rw [e] at hdy; cases hdy
                    | some w' =>
                      rw [e] at hdy
                      cases hdy
                      exact hn ⟨w', rfl, hu.2.1 w' (List.mem_of_getElem? e)⟩
              · rintro σ H2 ⟨⟨v0, w0, rfl⟩, k2, ws, e1, e2, e3⟩
                rw [el, List.take_length] at e1
                rw [bP_t] at k
                · exact k _ (k1.trans k2)
                · refine ⟨ws, .inl (by rw [e1]), e2, e3, ?_, ?_⟩
                  · have := congrArg List.length e1
                    rw [List.length_map] at this; omega
                  · have := congrArg List.length e1
                    rw [List.length_map] at this; omega
            · rw [decide_eq_false (show ¬ (xs.length : Int) ≤ (hi : Int) by omega)]
              refine iteT ?_
              rw [bP_f] at k
              · exact k _ k1
              · rintro ⟨ws, h⟩
                have := no (p := True) ws h
                have := h.2.2.2.2
                omega
          · rw [decide_eq_false (show ¬ (lo : Int) ≤ (xs.length : Int) by omega)]
            refine iteF ?_
            refine ⟨_, rfl, ?_⟩
            refine iteT ?_
            rw [bP_f] at k
            · exact k _ k1
            · rintro ⟨ws, h⟩
              have := no (p := True) ws h
              have := h.2.2.2.1
              omega
      · -- a tuple
        cases hx1 with
        | @tup m p xs _ rx lx ax =>
          have hx1 : Dt S q H1 (m + 1) (.ref p) (.tuple ds) := .tup rx lx ax
          have el : xs.length = ds.length := ax.len
          refine iteF ?_
          refine ⟨_, rfl, _, rfl, _, _, rfl, .inr ⟨_, .inl (.inl rx), rfl⟩, _, _, rfl, rfl, _, rfl, ?_⟩
          have no : ∀ {p : Prop}, (∀ ws, NmsD lo hi (.tuple ds) ws → ds.length = ws.length) := fun {p} ws h => by
            rcases h.1 with e | e
            all_goals first | (cases e; rw [List.length_map]) | cases e
          by_cases h1 : lo ≤ xs.length
          · rw [decide_eq_true (show (lo : Int) ≤ (xs.length : Int) by omega)]
            refine iteT ?_
            refine ⟨_, rfl, _, _, rfl, rfl, _, rfl, ?_⟩
            by_cases h2 : xs.length ≤ hi
            · rw [decide_eq_true (show (xs.length : Int) ≤ (hi : Int) by omega)]
              refine iteF ?_
              refine .inr ⟨_, rfl, p, xs, rfl, .inl (.inl rx), ?_⟩
              refine for_it (walk_enumT (xs := xs)) (fun i σ H' => (∃ v w : Option V, σ = [some (.ref p), some (.int lo), some (.int hi), v, w]) ∧ Kp [] H1 H' ∧ ∃ ws : List Str, ds.take i = ws.map .str ∧ (∀ w ∈ ws, IsNm w) ∧ ws.Nodup) ⟨⟨none, none, rfl⟩, Kp.refl _, [], rfl, (fun w h => nomatch h), List.nodup_nil⟩ (fun i σ H' _ ⟨_, k2, _⟩ => .inl (.inl (k2.tp _ _ rx))) ?_ ?_
              · rintro i v σ H2 H3 hi' ⟨⟨v0, w0, rfl⟩, k2, ws, e1, e2, e3⟩ ⟨T, a1, y, rfl, hT, rfl, ea, ey⟩
                cases ea
                obtain ⟨dy, hdy, dt⟩ := ax.getV ey
                have k3 : Kp [] H1 (upd H2 T (.tup [.int (i : Nat), y])) := k2.snoc hT
                refine ⟨T, _, rfl, SqT.of upd_same, rfl, _, _, rfl, _, _, rfl, rfl, ?_⟩
                refine ⟨_, rfl, S, q, m, y, dy, rfl, dt.keep k3, _, rfl, ?_⟩
                by_cases hn : NmD dy
                · rw [bP_t hn]
                  refine iteF ?_
                  obtain ⟨w1, rfl, nw⟩ := hn
                  cases dt with
                  | str _ hz =>
                    have et : xs.take i = ws.map V.str := DtAll.strs (by rw [← e1]; exact ax.take i)
                    refine ⟨_, rfl, _, rfl, _, rfl, _, rfl, .inr ⟨p, xs, rfl, .inl (.inl (k3.tp _ _ rx)), cut_not (by omega), fun P' hP => ⟨P', _, rfl, .inr (SqT.of upd_same), rfl, by rw [cut_take (by omega), et]; exact flat_strs ws, ?_⟩⟩⟩
                    rw [cut_take (by omega)]
                    rw [et, inV_strs]
                    refine ⟨_, rfl, ?_⟩
                    by_cases hm : w1 ∈ ws
                    · rw [decide_eq_true hm]
                      refine iteT ?_
                      rw [bP_f] at k
                      · exact k _ (k1.trans (k3.snoc hP))
                      · rintro ⟨us, hu⟩
                        have eu : ds = us.map .str := by
                          rcases hu.1 with e | e
                          all_goals first | (cases e; rfl) | cases e
                        have h3 : us[i]? = some w1 := strs_at (eu ▸ hdy)
                        have h4 : us.take i = ws := strs_take (by rw [← e1, eu])
                        exact notin_take hu.2.2.1 h3 (by rw [h4]; exact hm)
                    · rw [decide_eq_false hm]
                      refine iteF ?_
                      refine ⟨⟨_, _, rfl⟩, k3.snoc hP, ws ++ [w1], ?_, ?_, ?_⟩
                      · rw [take_snoc hdy, e1, List.map_append]; rfl
                      · intro w' h
                        rcases List.mem_append.mp h with h | h
                        · exact e2 w' h
                        · rw [List.mem_singleton.mp h]; exact nw
                      · exact nd_snoc e3 hm
                · rw [bP_f hn]
                  refine iteT (iteT ?_)
                  rw [bP_f] at k
                  · exact k _ (k1.trans k3)
                  · rintro ⟨us, hu⟩
                    have eu : ds = us.map .str := by
                      rcases hu.1 with e | e
                      all_goals first | (cases e; rfl) | cases e
                    subst eu
                    rw [List.getElem?_map] at hdy
                    cases e : us[i]? with
                    | none => rw [e] at hdy; cases hdy
                    | some w' =>
                      rw [e] at hdy
                      cases hdy
                      exact hn ⟨w', rfl, hu.2.1 w' (List.mem_of_getElem? e)⟩
              · rintro σ H2 ⟨⟨v0, w0, rfl⟩, k2, ws, e1, e2, e3⟩
                rw [el, List.take_length] at e1
                rw [bP_t] at k
                · exact k _ (k1.trans k2)
                · refine ⟨ws, .inr (by rw [e1]), e2, e3, ?_, ?_⟩
                  · have := congrArg List.length e1
                    rw [List.length_map] at this; omega
                  · have := congrArg List.length e1
                    rw [List.length_map] at this; omega
            · rw [decide_eq_false (show ¬ (xs.length : Int) ≤ (hi : Int) by omega)]
              refine iteT ?_
              rw [bP_f] at k
              · exact k _ k1
              · rintro ⟨ws, h⟩
                have := no (p := True) ws h
                have := h.2.2.2.2
                omega
          · rw [decide_eq_false (show ¬ (lo : Int) ≤ (xs.length : Int) by omega)]
            refine iteF ?_
            refine ⟨_, rfl, ?_⟩
            refine iteT ?_
            rw [bP_f] at k
            · exact k _ k1
            · rintro ⟨ws, h⟩
              have := no (p := True) ws h
              have := h.2.2.2.1
              omega
    · rw [Bool.eq_false_iff.mpr hd]
      refine iteT (iteT ?_)
      rw [bP_f] at k
      · exact k _ k1
      · rintro ⟨ws, h⟩
        rcases h.1 with e | e
        all_goals (rw [e] at hd; exact hd rfl)
theorem ok_is_table (B : Bi mg) (D : Dfn K mg "is_table" s_is_table ["thing"]) (G_is_name : Has P w K mg base CX0 "is_name" ["thing"] 1 spIsName) (G_are_names : Has P w K mg base CX0 "are_names" ["thing", "least", "most"] 2 spAreNames) :
    Has P w K mg base CX0 "is_table" ["thing"] 3 spIsTable := by
  refine D.has sc_is_table (fun vs H Q E h => ?_) (fun f cdv A outer s H vs Q E hr h => ?_)
  · obtain ⟨S, q, n, x, d, rfl, _⟩ := h; rfl
  · obtain ⟨S, q, n, x, d, rfl, hx, k⟩ := h
    have hr1 : Room 1 _ := hr.mono (by decide)
    refine ⟨_, (pss_one (ps_ret (pe_and (pe_callB call_isi (by rfl) B.isinstance (by decide +kernel) (pa_cons (pv 0) (pa_cons (pe_bltn (v := .ty "tuple") (by rfl) B.tuple (by decide +kernel) rfl) pa_nil))) (pe_and (pe_cmpR op_eq (pe_callB call_len (by rfl) B.len PySem.boot_len (pa_cons (pv 0) pa_nil)) pe_int (nomark _)) (pe_and (pe_has G_is_name hr1 (pa_cons (pe_ix ix_tup (pv 0) pe_int (fun _ _ => rfl)) pa_nil)) (pe_one (pe_has G_are_names hr (pa_cons (pe_ix ix_tup (pv 0) pe_int (fun _ _ => rfl)) (pa_cons pe_int (pa_cons pe_int pa_nil)))))))))), ?_⟩
    refine ⟨_, rfl, _, _, _, _, _, rfl, .ty _, hx.ty, kit_ty (kb_tuple _), _, rfl, ?_⟩
    cases hx with
    | @tup m p xs ds rx lx ax =>
      refine iteT ?_
      refine ⟨_, rfl, _, _, rfl, .inr ⟨_, .inl (.inl rx), rfl⟩, rfl, _, rfl, ?_⟩
      by_cases h2 : xs.length = 2
      · rw [decide_eq_true (show V.int (xs.length : Int) = V.int 2 by rw [h2]; rfl)]
        refine iteT ?_
        obtain ⟨x0, x1, rfl⟩ : ∃ x0 x1, xs = [x0, x1] := by
          match xs, h2 with
          | [a, b], _ => exact ⟨a, b, rfl⟩
        cases ax with
        | @cons _ _ _ d0 _ a0 ax =>
          cases ax with
          | @cons _ _ _ d1 _ a1 ax =>
            cases ax
            refine ⟨_, rfl, p, _, _, x0, rfl, rfl, .inl (.inl rx), rfl, S, q, m, x0, d0, rfl, a0, _, rfl, ?_⟩
            by_cases h0 : NmD d0
            · rw [bP_t h0]
              refine iteT ?_
              refine ⟨_, rfl, p, _, _, x1, rfl, rfl, .inl (.inl rx), rfl, S, q, m, x1, d1, 1, 4, rfl, a1, fun H1 k1 => ?_⟩
              obtain ⟨w0, rfl, nw⟩ := h0
              by_cases hw : ∃ ws, NmsD 1 4 d1 ws
              · rw [bP_t hw]
                obtain ⟨ws, hw⟩ := hw
                rw [bP_t ⟨(w0, ws), d1, rfl, nw, hw⟩] at k
                exact k H1 k1
              · rw [bP_f hw]
                rw [bP_f] at k
                · exact k H1 k1
                · rintro ⟨t, e, h, _, h'⟩
                  cases h
                  exact hw ⟨_, h'⟩
            · rw [bP_f h0]
              refine iteF ?_
              rw [bP_f] at k
              · exact k H (Kp.refl H)
              · rintro ⟨t, e, h, h', _⟩
                cases h
                exact h0 ⟨_, rfl, h'⟩
      · rw [decide_eq_false (fun z => h2 (by injection z with z; omega))]
        refine iteF ?_
        rw [bP_f] at k
        · exact k H (Kp.refl H)
        · rintro ⟨t, e, h, _⟩
          cases h
          exact h2 ax.len
    | _ =>
      refine iteF ?_
      rw [bP_f] at k
      · exact k H (Kp.refl H)
      · rintro ⟨t, e, h, _⟩
        cases h
end
end Fm

namespace Fm
open PySem PySem.Spec PyProof.Rows L2
/-! ### data of tuples alone: nothing changes it -/
abbrev TupH (H : Hp) : Addr → Prop := fun a => ∃ xs, H a = some (.tup xs)
abbrev Im (H : Hp) (n : Nat) (v : V) (d : PyData) : Prop := Dt (TupH H) true H n v d
abbrev ImAll (H : Hp) (n : Nat) (v : List V) (d : List PyData) : Prop := DtAll (TupH H) true H n v d
theorem tupH_keep {ms : List Addr} {H H' : Hp} (k : Kp ms H H') (a : Addr) (o : HO) (s : TupH H a) (e : H a = some o) : H' a = some o := by
  obtain ⟨xs, h⟩ := s
  rw [h] at e
  cases e
  exact k.tp a xs h
theorem Im.kp {ms : List Addr} {H H' : Hp} (k : Kp ms H H') {n : Nat} {v : V} {d : PyData} (h : Im H n v d) : Im H' n v d := Dt.keepS (fun a o s e => tupH_keep k a o s e) (fun a ⟨xs, h⟩ => ⟨xs, k.tp a xs h⟩) h
theorem ImAll.kp {ms : List Addr} {H H' : Hp} (k : Kp ms H H') {n : Nat} {v : List V} {d : List PyData} (h : ImAll H n v d) : ImAll H' n v d := DtAll.keepS (fun a o s e => tupH_keep k a o s e) (fun a ⟨xs, h⟩ => ⟨xs, k.tp a xs h⟩) h
/-! ### tables -/
def dTab (t : Str × List Str) : PyData := .tuple [.str t.1, .tuple (t.2.map .str)]
def dTabs (tbs : List (Str × List Str)) : PyData := .tuple (tbs.map dTab)
inductive TabsD : List PyData → List (Str × List Str) → Prop
  | nil : TabsD [] []
  | cons {d : PyData} {ds : List PyData} {t : Str × List Str} {ts : List (Str × List Str)} : TabD d t → TabsD ds ts → TabsD (d :: ds) (t :: ts)
theorem TabsD.len : ∀ {ds : List PyData} {ts : List (Str × List Str)}, TabsD ds ts → ds.length = ts.length
  | _, _, .nil => rfl
  | _, _, .cons _ h => congrArg (· + 1) h.len
theorem TabsD.snoc : ∀ {ds : List PyData} {ts : List (Str × List Str)} {d : PyData} {t : Str × List Str}, TabsD ds ts → TabD d t → TabsD (ds ++ [d]) (ts ++ [t])
  | _, _, _, _, .nil, h => .cons h .nil
  | _, _, _, _, .cons a b, h => .cons a (b.snoc h)
theorem TabsD.take : ∀ {ds : List PyData} {ts : List (Str × List Str)}, TabsD ds ts → ∀ i : Nat, TabsD (ds.take i) (ts.take i)
  | _, _, .nil, i => by rw [List.take_nil, List.take_nil]; exact .nil
  | _, _, .cons a b, 0 => .nil
  | _, _, .cons a b, i + 1 => .cons a (b.take i)
theorem TabsD.get : ∀ {ds : List PyData} {ts : List (Str × List Str)}, TabsD ds ts → ∀ {i : Nat} {d : PyData}, ds[i]? = some d → ∃ t, ts[i]? = some t ∧ TabD d t
  | _, _, .cons a b, 0, d, h => by cases h; exact ⟨_, rfl, a⟩
  | _, _, .cons a b, i + 1, d, h => b.get (i := i) h
theorem nms_inj {lo hi : Nat} {d : PyData} {ws ws' : List Str} (h : NmsD lo hi d ws) (h' : NmsD lo hi d ws') : ws = ws' := by
  rcases h.1 with e | e <;> rcases h'.1 with e' | e' <;> rw [e] at e'
  · exact strs_inj (PyData.list.inj e')
  · cases e'
  · cases e'
  · exact strs_inj (PyData.tuple.inj e')
theorem TabD.inj {d : PyData} {t t' : Str × List Str} (h : TabD d t) (h' : TabD d t') : t = t' := by
  obtain ⟨e, rfl, _, n⟩ := h
  obtain ⟨e', q, _, n'⟩ := h'
  injection q with q
  injection q with q1 q2
  injection q2 with q2 q3
  injection q1 with q1
  subst q2
  exact Prod.ext q1 (nms_inj n n')
theorem TabsD.inj : ∀ {ds : List PyData} {ts ts' : List (Str × List Str)}, TabsD ds ts → TabsD ds ts' → ts = ts'
  | _, _, _, .nil, .nil => rfl
  | _, _, _, .cons a b, .cons a' b' => by rw [a.inj a', b.inj b']
/-- the things of a row -/
def RowD (d : PyData) (ds : List PyData) : Prop := d = .list ds ∨ d = .tuple ds
def ShpD (d : PyData) (tbs : List (Str × List Str)) : Prop := ∃ ds, RowD d ds ∧ 1 ≤ ds.length ∧ ds.length ≤ 5 ∧ TabsD ds tbs ∧ (tbs.map (·.1)).Nodup
/-- the first thing that is wrong -/
def ShpBad (d : PyData) (i : Int) : Prop := (i = -1 ∧ ¬ ∃ ds, RowD d ds ∧ 1 ≤ ds.length ∧ ds.length ≤ 5) ∨
  ∃ ds k e tbs, RowD d ds ∧ 1 ≤ ds.length ∧ ds.length ≤ 5 ∧ i = ((k : Nat) : Int) ∧ ds[k]? = some e ∧ TabsD (ds.take k) tbs ∧ (tbs.map (·.1)).Nodup ∧ ¬ ∃ t, TabD e t ∧ t.1 ∉ tbs.map (·.1)
def ShapeAt (C : Addr) (H : Hp) (p : Addr) (tbs : List (Str × List Str)) : Prop := ∃ dx v, H p = some (.ins C dx [("tables", v)]) ∧ Im H 3 v (dTabs tbs)
theorem ShapeAt.kp {C : Addr} {H H' : Hp} {p : Addr} {tbs : List (Str × List Str)} {ms : List Addr} (h : ShapeAt C H p tbs) (k : Kp ms H H') (hp : p ∉ ms) : ShapeAt C H' p tbs := by
  obtain ⟨dx, v, h1, h2⟩ := h
  exact ⟨dx, v, k.at_ _ _ h1 hp, Im.kp k h2⟩
def spShapeI (C CE : Addr) : Sp := fun vs H Q E => ∃ (p dx : Addr) (S : Addr → Prop) (q : Bool) (n : Nat) (x : V) (d : PyData), vs = [.ref p, x] ∧ H p = some (.ins C dx []) ∧ Dt S q H n x d ∧
  (∀ tbs H', ShpD d tbs → Kp [p] H H' → ShapeAt C H' p tbs → Q .non H') ∧
  (∀ (i : Int) (dd : Addr) (H' : Hp), ShpBad d i → Kp [] H H' → H dd = none → H' dd = some (.xd [("at", .int i)]) → E (.ref CE) (some dd) H')
/-- what the top has of the class Shape -/
structure ShCls (K : PySem.W.Frag) (mg : Str → Option Value) (C : Addr) : Prop where
  cl : Cls K C
  nT : NoAttr K C "tables"
  mgC : mg "Shape" = some (.ref C)
theorem dtAll_strs {S : Addr → Prop} {q : Bool} {H : Hp} {n : Nat} : ∀ {ws : List Str}, (∀ w ∈ ws, w.length ≤ 1000000) → DtAll S q H n (ws.map V.str) (ws.map PyData.str)
  | [], _ => .nil
  | w :: ws, h => .cons (.str w (h w List.mem_cons_self)) (dtAll_strs fun x hx => h x (List.mem_cons_of_mem _ hx))
theorem Same.dt {S : Addr → Prop} {q : Bool} {H H' : Hp} {n : Nat} {v : V} {d : PyData} (h : Dt S q H n v d) (k : Same H H') (kt : ∀ a xs, H a = some (.tup xs) → H' a = some (.tup xs)) : Dt S q H' n v d := h.keep ⟨fun a o e _ => k a o e, kt⟩
section
variable {P : Program} {w : World} {K : PySem.W.Frag} {mg : Str → Option Value} {base : Heap}
theorem ok_shape_init {f C CE : Addr} {fd : FuncData} (B : Bi mg) (F : Fun K "__init__" "Shape.__init__" s_Shape_init f fd) (T : ShCls K mg C) (ER : ∀ base, Err P w K mg base "BadShape" "at" CE)
    (G_is_row : ∀ base, Has P w K mg base CX0 "is_row" ["thing"] 1 spIsRow) (G_is_table : ∀ base, Has P w K mg base CX0 "is_table" ["thing"] 3 spIsTable) :
    FnOk P w K mg base (L2.CX P w) 4 f fd ["self", "tables"] (spShapeI C CE) := by
  refine F.okX sc_Shape_init (fun vs H Q E h => ?_) (fun cdv A outer s H vs Q E hr h => ?_)
  · obtain ⟨p, dx, S, q, n, x, d, rfl, _⟩ := h; rfl
  · obtain ⟨p, dx, S, q, n, x, d, rfl, hp, hx, kQ, kE⟩ := h
    have hr1 : Room 1 _ := hr.mono (by decide)
    have hr3 : Room 3 _ := hr
    have G_is_row := G_is_row base
    have G_is_table := G_is_table base
    have ER := ER base
    refine ⟨_, (C8.pss_cut (ps_if (PW.pt (pw_or (pt_not (pt_val (pe_has G_is_row hr1 (pa_cons (pv 1) pa_nil)))) (pw_or1 (pt_not (pt_chain op_le op_le pe_int (pe_callB call_len (by rfl) B.len PySem.boot_len (pa_cons (pv 1) pa_nil)) pe_int)))))
  (pss_one (ps_raiseE rfl ER hr (by decide) (takes_of rfl rfl rfl rfl) (pa_cons (pe_un un_neg pe_int) pa_nil)))
  pss_nil)
  (pss_cons (ps_set (i := 2) sc_Shape_init.nd rfl (by first | exact Or.inl rfl | exact Or.inr rfl) (pe_lst pa_nil))
  (pss_cons (ps_set (i := 3) sc_Shape_init.nd rfl (by first | exact Or.inl rfl | exact Or.inr rfl) (pe_lst pa_nil))
  (pss_cons (ps_for (passes_of rfl) rfl (pi_or (pi_enum (by rfl) B.enumerate (pa_cons (pv 1) pa_nil)) (pi_enumT (by rfl) B.enumerate (pa_cons (pv 1) pa_nil))) (pg_tup rfl (pgs_cons (pg_name (i := 4) sc_Shape_init.nd rfl (by first | exact Or.inl rfl | exact Or.inr rfl)) (pgs_cons (pg_name (i := 5) sc_Shape_init.nd rfl (by first | exact Or.inl rfl | exact Or.inr rfl)) pgs_nil)))
  (pss_cons (ps_if (PW.pt (pw_or (pt_not (pt_val (pe_has G_is_table hr3 (pa_cons (pv 5) pa_nil)))) (pw_or1 (pt_cmpR op_in_seq (pe_ix ix_tup (pv 5) pe_int (fun _ _ => rfl)) (pv 2) (by rfl)))))
  (pss_one (ps_raiseE rfl ER hr (by decide) (takes_of rfl rfl rfl rfl) (pa_cons (pv 4) pa_nil)))
  pss_nil)
  (pss_cons (ps_expr (pe_bm PySem.F.plainAttrs_list PySem.F.slot_list_append PySem.F.type_list_append mt_append (pv 2) (pa_cons (pe_ix ix_tup (pv 5) pe_int (fun _ _ => rfl)) pa_nil)))
  (pss_one (ps_expr (pe_bm PySem.F.plainAttrs_list PySem.F.slot_list_append PySem.F.type_list_append mt_append (pv 3) (pa_cons (pe_tup (pa_cons (pe_ix ix_tup (pv 5) pe_int (fun _ _ => rfl)) (pa_cons (pe_callTy call_tuple_of (by rfl) B.tuple (by decide +kernel) (pa_cons (pe_ix ix_tup (pv 5) pe_int (fun _ _ => rfl)) pa_nil)) pa_nil))) pa_nil)))))))
  (pss_one (ps_fld (pv 0) (pe_callTy call_tuple_of (by rfl) B.tuple (by decide +kernel) (pa_cons (pv 3) pa_nil)) rfl)))))), ?_⟩
    refine ⟨fun σ H' => σ = [some (.ref p), some x, none, none, none, none] ∧ Kp [] H H' ∧ ∃ ds, RowD d ds ∧ 1 ≤ ds.length ∧ ds.length ≤ 5, ?_, ?_⟩
    · refine ⟨_, rfl, S, q, n, x, d, rfl, hx, fun H1 k1 => ⟨_, rfl, ?_⟩⟩
      have hx1 := hx.keep k1
      have bad : (¬ ∃ ds, RowD d ds ∧ 1 ≤ ds.length ∧ ds.length ≤ 5) → ∀ (dd : Addr), H1 dd = none → E (.ref CE) (some dd) (upd H1 dd (.xd [("at", .int (-1))])) := fun hb dd hdd =>
        kE (-1) dd _ (.inl ⟨rfl, hb⟩) (k1.snoc hdd) (k1.same.free hdd) upd_same
      by_cases hd : isRowD d = true
      · rw [hd]
        refine iteF ?_
        obtain ⟨xs, ds, hl, hrow, hlen⟩ : ∃ (xs : List V) (ds : List PyData), LenV K x H1 xs.length ∧ RowD d ds ∧ xs.length = ds.length := by
          cases hx1 with
          | lst rx lx ax => exact ⟨_, _, .inl ⟨_, .inl rx, rfl⟩, .inl rfl, ax.len⟩
          | tup rx lx ax => exact ⟨_, _, .inr ⟨_, .inl (.inl rx), rfl⟩, .inr rfl, ax.len⟩
          | _ => cases hd
        refine ⟨_, rfl, _, _, rfl, hl, _, _, rfl, rfl, _, rfl, ?_⟩
        have uniq : ∀ es, RowD d es → es = ds := fun es h => by
          rcases h with h | h <;> rcases hrow with h' | h' <;> rw [h] at h'
          · exact PyData.list.inj h'
          · cases h'
          · cases h'
          · exact PyData.tuple.inj h'
        by_cases h1 : 1 ≤ xs.length
        · rw [decide_eq_true (show (1 : Int) ≤ (xs.length : Int) by omega)]
          refine iteT ?_
          refine ⟨_, _, rfl, rfl, _, rfl, ?_⟩
          by_cases h5 : xs.length ≤ 5
          · rw [decide_eq_true (show (xs.length : Int) ≤ 5 by omega)]
            refine iteF ?_
            exact ⟨rfl, k1, ds, hrow, by omega, by omega⟩
          · rw [decide_eq_false (show ¬ (xs.length : Int) ≤ 5 by omega)]
            refine iteT ?_
            refine ⟨_, rfl, by simp, fun b hb => err_in hb fun dd hdd => bad ?_ dd hdd⟩
            rintro ⟨es, h, h', h''⟩
            rw [uniq es h] at h''
            omega
        · rw [decide_eq_false (show ¬ (1 : Int) ≤ (xs.length : Int) by omega)]
          refine iteF ?_
          refine ⟨_, rfl, ?_⟩
          refine iteT ?_
          refine ⟨_, rfl, by simp, fun b hb => err_in hb fun dd hdd => bad ?_ dd hdd⟩
          rintro ⟨es, h, h', h''⟩
          rw [uniq es h] at h'
          omega
      · rw [Bool.eq_false_iff.mpr hd]
        refine iteT (iteT ?_)
        refine ⟨_, rfl, by simp, fun b hb => err_in hb fun dd hdd => bad ?_ dd hdd⟩
        rintro ⟨es, h, h'⟩
        rcases h with h | h
        all_goals (rw [h] at hd; exact hd rfl)
    · rintro σ' H1 ⟨rfl, k1, ds, hrow, l1, l5⟩
      have hx1 := (hx.keep k1).inH
      refine ⟨by show 0 ≤ sizeLine; decide, fun pn hn => ⟨by show 0 ≤ sizeLine; decide, fun pm hm0 => ?_⟩⟩
      have npm : pn ≠ pm := fun z => by rw [← z, upd_same] at hm0; cases hm0
      have hm1 : H1 pm = none := by rw [upd_ne (Ne.symm npm)] at hm0; exact hm0
      have kk : Kp [] H1 (upd (upd H1 pn (.lst [])) pm (.lst [])) := (Kp.new hn).snoc hm0
      rcases hrow with rfl | rfl
      · cases hx1 with
        | @lst m a xs _ rx lx ax =>
          have el : xs.length = ds.length := ax.len
          have hrow : RowD (.list ds) ds := .inl rfl
          refine .inl ⟨_, rfl, a, xs, rfl, .inl (kk.rd (fun z => nomatch z) rx), ?_⟩
          refine for_it (walk_enum (xs := xs)) (fun i σ H' => (∃ v w : Option V, σ = [some (.ref p), some (.ref a), some (.ref pn), some (.ref pm), v, w]) ∧ Kp [] H1 H' ∧ ∃ (tbs : List (Str × List Str)) (ms : List V), TabsD (ds.take i) tbs ∧ (tbs.map (·.1)).Nodup ∧ H' pn = some (.lst ((tbs.map (·.1)).map V.str)) ∧ H' pm = some (.lst ms) ∧ ms.length = i ∧ ImAll H' 2 ms (tbs.map dTab))
            ⟨⟨none, none, rfl⟩, kk, [], [], .nil, List.nodup_nil, by rw [upd_ne npm, upd_same]; rfl, upd_same, rfl, .nil⟩ (fun i σ H' _ ⟨_, k2, _⟩ => .inl (k2.rd (fun z => nomatch z) rx)) ?_ ?_
          · rintro i v σ H2 H3 hi' ⟨⟨v0, w0, rfl⟩, k2, tbs, ms, t1, t2, h2, h3, t3, t4⟩ ⟨T, a1, y, rfl, hT, rfl, ea, ey⟩
            cases ea
            obtain ⟨dy, hdy, dt⟩ := ax.getV ey
            have k3 : Kp [] H1 (upd H2 T (.tup [.int (i : Nat), y])) := k2.snoc hT
            have Tpn : pn ≠ T := ne_of_none h2 hT
            have Tpm : pm ≠ T := ne_of_none h3 hT
            refine ⟨T, _, rfl, SqT.of upd_same, rfl, _, _, rfl, _, _, rfl, rfl, ?_⟩
            refine ⟨_, rfl, _, q, m, y, dy, rfl, dt.keep k3, fun H4 k4 => ⟨_, rfl, ?_⟩⟩
            have k5 : Kp [] H1 H4 := k3.trans k4
            have h2' : H4 pn = some (.lst ((tbs.map (·.1)).map V.str)) := k4.at_ _ _ (by rw [upd_ne Tpn]; exact h2) (fun z => nomatch z)
            have h3' : H4 pm = some (.lst ms) := k4.at_ _ _ (by rw [upd_ne Tpm]; exact h3) (fun z => nomatch z)
            have t4' : ImAll H4 2 ms (tbs.map dTab) := ImAll.kp ((Kp.new (ms := []) hT).trans k4) t4
            have bad : (¬ ∃ t, TabD dy t ∧ t.1 ∉ tbs.map (·.1)) → ∀ (dd : Addr), H4 dd = none → E (.ref CE) (some dd) (upd H4 dd (.xd [("at", .int ((i : Nat) : Int))])) := fun hb dd hdd => by
              have kH : Kp [] H H4 := k1.trans k5
              refine kE i dd _ (.inr ⟨ds, i, dy, tbs, hrow, l1, l5, rfl, hdy, t1, t2, hb⟩) (kH.snoc hdd) (kH.same.free hdd) upd_same
            by_cases ht : ∃ t, TabD dy t
            · rw [bP_t ht]
              refine iteF ?_
              obtain ⟨t, e, rfl, nt, ne⟩ := ht
              have dt' := dt.keep k5
              cases dt' with
              | @tup m' a' ys _ ry ly ay =>
                cases ay with
                | @cons _ y0 _ _ _ a0 ay =>
                  cases ay with
                  | @cons _ y1 _ _ _ a1 ay =>
                    cases ay
                    cases a0 with
                    | str _ hz =>
                      refine ⟨_, rfl, a', _, _, .str t.1, rfl, rfl, .inl (.inl ry), rfl, _, rfl, pn, _, rfl, .inl (SqL.of h2'), rfl, flat_strs _, _, rfl, ?_⟩
                      rw [inV_strs]
                      by_cases hm : t.1 ∈ tbs.map (·.1)
                      · rw [decide_eq_true hm]
                        refine iteT ?_
                        refine ⟨_, rfl, by simp, fun b hb => err_in hb fun dd hdd => bad ?_ dd hdd⟩
                        rintro ⟨t', h', hn'⟩
                        have := TabD.inj h' (show TabD (.tuple [.str t.1, e]) t from ⟨e, rfl, nt, ne⟩)
                        rw [this] at hn'
                        exact hn' hm
                      · rw [decide_eq_false hm]
                        refine iteF ?_
                        -- names.append(table[0])
                        have lt5 : i < 5 := by omega
                        have ltb : tbs.length = i := by
                          have := t1.len
                          rw [List.length_take] at this
                          omega
                        refine ⟨_, rfl, .inl ⟨rfl, _, SqL.of h2'⟩, _, rfl, a', _, _, .str t.1, rfl, rfl, .inl (.inl ry), rfl, pn, _, _, rfl, rfl, h2', by rw [List.length_map, List.length_map, ltb]; exact small1000 (by omega), ?_⟩
                        have npn : H1 pn = none := hn
                        have k6 : Kp [] H1 (upd H4 pn (.lst ((tbs.map (·.1)).map V.str ++ [.str t.1]))) := k5.late npn
                        have ry6 : ((upd H4 pn (.lst ((tbs.map (·.1)).map V.str ++ [.str t.1])))) a' = some (.tup [.str t.1, y1]) := (Kp.updL (ms := [pn]) h2' (by simp)).tp _ _ ry
                        have h36 : upd H4 pn (.lst ((tbs.map (·.1)).map V.str ++ [.str t.1])) pm = some (.lst ms) := by rw [upd_ne (Ne.symm npm)]; exact h3'
                        -- made.append((table[0], tuple(table[1])))
                        refine ⟨_, rfl, .inl ⟨rfl, _, SqL.of h36⟩, _, rfl, a', _, _, .str t.1, rfl, rfl, .inl (.inl ry6), rfl, _, rfl, a', _, _, y1, rfl, rfl, .inl (.inl ry6), rfl, ?_⟩
                        have fin : ∀ (H7 : Hp) (u : Addr), Kp [] (upd H4 pn (.lst ((tbs.map (·.1)).map V.str ++ [.str t.1]))) H7 → H7 u = some (.tup (t.2.map V.str)) → ∀ P', H7 P' = none →
                            (∃ v w : Option V, ([some (.ref p), some (.ref a), some (.ref pn), some (.ref pm), some (.int (i : Nat)), some (.ref a')] : L2.St) = [some (.ref p), some (.ref a), some (.ref pn), some (.ref pm), v, w]) ∧
                            Kp [] H1 (upd (upd H7 P' (.tup [.str t.1, .ref u])) pm (.lst (ms ++ [.ref P']))) ∧ ∃ (tbs : List (Str × List Str)) (ms' : List V), TabsD (ds.take (i + 1)) tbs ∧ (tbs.map (·.1)).Nodup ∧
                              upd (upd H7 P' (.tup [.str t.1, .ref u])) pm (.lst (ms ++ [.ref P'])) pn = some (.lst ((tbs.map (·.1)).map V.str)) ∧ upd (upd H7 P' (.tup [.str t.1, .ref u])) pm (.lst (ms ++ [.ref P'])) pm = some (.lst ms') ∧ ms'.length = i + 1 ∧ ImAll (upd (upd H7 P' (.tup [.str t.1, .ref u])) pm (.lst (ms ++ [.ref P']))) 2 ms' (tbs.map dTab) := by
                          intro H7 u k7 hu P' hP
                          have h37 : H7 pm = some (.lst ms) := k7.at_ _ _ h36 (fun z => nomatch z)
                          have k8 : Kp [pm] H7 (upd (upd H7 P' (.tup [.str t.1, .ref u])) pm (.lst (ms ++ [.ref P']))) := (Kp.new hP).trans (Kp.updL (by rw [upd_ne (ne_of_none h37 hP)]; exact h37) (by simp))
                          have hn7 : H7 pn = some (.lst ((tbs.map (·.1)).map V.str ++ [.str t.1])) := k7.at_ _ _ upd_same (fun z => nomatch z)
                          have uP : u ≠ P' := ne_of_none hu hP
                          have pP : P' ≠ pm := Ne.symm (ne_of_none h37 hP)
                          have hl2 := ne.2.2.2.2
                          have upm : u ≠ pm := fun z => by rw [z, h37] at hu; cases hu
                          refine ⟨⟨_, _, rfl⟩, ((k6.trans k7).snoc hP).late hm1, tbs ++ [t], ms ++ [.ref P'], ?_, ?_, ?_, upd_same, by simp [t3], ?_⟩
                          · rw [take_snoc hdy]; exact t1.snoc ⟨e, rfl, nt, ne⟩
                          · rw [List.map_append]; exact nd_snoc t2 hm
                          · rw [upd_ne npm, upd_ne (ne_of_none hn7 hP), hn7]; simp
                          · rw [List.map_append]
                            have km : Kp [pn, pm] H4 (upd (upd H7 P' (.tup [.str t.1, .ref u])) pm (.lst (ms ++ [.ref P']))) := ((Kp.updL h2' (by simp)).trans k7.zero).trans (k8.mono (by simp))
                            refine DtAll.append (ImAll.kp km t4') (.cons ?_ .nil)
                            refine .tup (by rw [upd_ne pP, upd_same]) ⟨by simp, _, by rw [upd_ne pP, upd_same]⟩ (.cons (.str _ hz) (.cons (.tup (by rw [upd_ne upm, upd_ne uP]; exact hu) ⟨by rw [List.length_map]; omega, _, by rw [upd_ne upm, upd_ne uP]; exact hu⟩ ?_) .nil))
                            exact dtAll_strs fun w' hw' => Nat.le_trans (ne.2.1 w' hw').2.1 (by decide)
                        rcases ne.1 with e1 | e1 <;> subst e1
                        · cases a1 with
                          | @lst _ b zs _ rb lb ab =>
                            have ez := DtAll.strs ab
                            subst ez
                            have rb6 : Rd (upd H4 pn (.lst ((tbs.map (·.1)).map V.str ++ [.str t.1]))) b (.lst (t.2.map V.str)) := (Kp.updL (ms := [pn]) h2' (by simp)).rd (by
                              intro z
                              have e' : b = pn := by simpa using z
                              exact lb.2.2 (by rw [e']; exact hn)) rb
                            refine ⟨b, _, rfl, .inl ⟨.inl rb6, fun u hu => ⟨by show 2 ≤ sizeLine; decide, fun P' hP => ?_⟩⟩⟩
                            have h38 : upd (upd (upd H4 pn (.lst ((tbs.map (·.1)).map V.str ++ [.str t.1]))) u (.tup (t.2.map V.str))) P' (.tup [.str t.1, .ref u]) pm = some (.lst ms) := by
                              have x1 : pm ≠ u := ne_of_none h36 hu
                              have x2 : pm ≠ P' := ne_of_none (by rw [upd_ne x1]; exact h36) hP
                              rw [upd_ne x2, upd_ne x1]; exact h36
                            refine ⟨pm, _, _, rfl, rfl, h38, by rw [t3]; exact small1000 (by omega), ?_⟩
                            exact fin _ u (Kp.new hu) upd_same P' hP
                        · cases a1 with
                          | @tup _ b zs _ rb lb ab =>
                            have ez := DtAll.strs ab
                            subst ez
                            have rb6 : ((upd H4 pn (.lst ((tbs.map (·.1)).map V.str ++ [.str t.1])))) b = some (.tup (t.2.map V.str)) := (Kp.updL (ms := [pn]) h2' (by simp)).tp _ _ rb
                            refine ⟨b, _, rfl, .inr ⟨.inl (.inl rb6), by show 2 ≤ sizeLine; decide, fun P' hP => ?_⟩⟩
                            have h38 : upd (upd H4 pn (.lst ((tbs.map (·.1)).map V.str ++ [.str t.1]))) P' (.tup [.str t.1, .ref b]) pm = some (.lst ms) := by
                              rw [upd_ne (ne_of_none h36 hP)]; exact h36
                            refine ⟨pm, _, _, rfl, rfl, h38, by rw [t3]; exact small1000 (by omega), ?_⟩
                            exact fin _ b (Kp.refl _) rb6 P' hP
            · rw [bP_f ht]
              refine iteT (iteT ?_)
              refine ⟨_, rfl, by simp, fun b hb => err_in hb fun dd hdd => bad ?_ dd hdd⟩
              rintro ⟨t, h', _⟩
              exact ht ⟨t, h'⟩
          · rintro σ H2 ⟨⟨v0, w0, rfl⟩, k2, tbs, ms, t1, t2, h2, h3, t3, t4⟩
            rw [el, List.take_length] at t1
            have kH : Kp [] H H2 := k1.trans k2
            have hp2 : H2 p = some (.ins C dx []) := kH.at_ _ _ hp (fun z => nomatch z)
            refine ⟨_, rfl, pm, _, rfl, .inl ⟨SqL.of h3, fun tt htt => ?_⟩⟩
            have pt : p ≠ tt := ne_of_none hp2 htt
            refine ⟨_, rfl, p, C, dx, [], rfl, by rw [upd_ne pt]; exact hp2, T.cl, T.nT, by show 0 < 1000; decide, ?_⟩
            refine kQ tbs _ ⟨ds, hrow, l1, l5, t1, t2⟩ (((kH.snoc htt).zero).trans (Kp.set (by rw [upd_ne pt]; exact hp2) (fun _ z => by cases z) (by simp))) ⟨dx, .ref tt, upd_same, ?_⟩
            have kf : Kp [p] H2 (upd (upd H2 tt (.tup ms)) p (.ins C dx (putF "tables" (.ref tt) []))) := (Kp.new htt).trans (Kp.set (by rw [upd_ne pt]; exact hp2) (fun _ z => by cases z) (by simp))
            refine .tup (by rw [upd_ne (Ne.symm pt), upd_same]) ⟨by rw [t3]; omega, _, by rw [upd_ne (Ne.symm pt), upd_same]⟩ (ImAll.kp kf t4)
      · cases hx1 with
        | @tup m a xs _ rx lx ax =>
          have el : xs.length = ds.length := ax.len
          have hrow : RowD (.tuple ds) ds := .inr rfl
          refine .inr ⟨_, rfl, a, xs, rfl, .inl (.inl (kk.tp _ _ rx)), ?_⟩
          refine for_it (walk_enumT (xs := xs)) (fun i σ H' => (∃ v w : Option V, σ = [some (.ref p), some (.ref a), some (.ref pn), some (.ref pm), v, w]) ∧ Kp [] H1 H' ∧ ∃ (tbs : List (Str × List Str)) (ms : List V), TabsD (ds.take i) tbs ∧ (tbs.map (·.1)).Nodup ∧ H' pn = some (.lst ((tbs.map (·.1)).map V.str)) ∧ H' pm = some (.lst ms) ∧ ms.length = i ∧ ImAll H' 2 ms (tbs.map dTab))
            ⟨⟨none, none, rfl⟩, kk, [], [], .nil, List.nodup_nil, by rw [upd_ne npm, upd_same]; rfl, upd_same, rfl, .nil⟩ (fun i σ H' _ ⟨_, k2, _⟩ => .inl (.inl (k2.tp _ _ rx))) ?_ ?_
          · rintro i v σ H2 H3 hi' ⟨⟨v0, w0, rfl⟩, k2, tbs, ms, t1, t2, h2, h3, t3, t4⟩ ⟨T, a1, y, rfl, hT, rfl, ea, ey⟩
            cases ea
            obtain ⟨dy, hdy, dt⟩ := ax.getV ey
            have k3 : Kp [] H1 (upd H2 T (.tup [.int (i : Nat), y])) := k2.snoc hT
            have Tpn : pn ≠ T := ne_of_none h2 hT
            have Tpm : pm ≠ T := ne_of_none h3 hT
            refine ⟨T, _, rfl, SqT.of upd_same, rfl, _, _, rfl, _, _, rfl, rfl, ?_⟩
            refine ⟨_, rfl, _, q, m, y, dy, rfl, dt.keep k3, fun H4 k4 => ⟨_, rfl, ?_⟩⟩
            have k5 : Kp [] H1 H4 := k3.trans k4
            have h2' : H4 pn = some (.lst ((tbs.map (·.1)).map V.str)) := k4.at_ _ _ (by rw [upd_ne Tpn]; exact h2) (fun z => nomatch z)
            have h3' : H4 pm = some (.lst ms) := k4.at_ _ _ (by rw [upd_ne Tpm]; exact h3) (fun z => nomatch z)
            have t4' : ImAll H4 2 ms (tbs.map dTab) := ImAll.kp ((Kp.new (ms := []) hT).trans k4) t4
            have bad : (¬ ∃ t, TabD dy t ∧ t.1 ∉ tbs.map (·.1)) → ∀ (dd : Addr), H4 dd = none → E (.ref CE) (some dd) (upd H4 dd (.xd [("at", .int ((i : Nat) : Int))])) := fun hb dd hdd => by
              have kH : Kp [] H H4 := k1.trans k5
              refine kE i dd _ (.inr ⟨ds, i, dy, tbs, hrow, l1, l5, rfl, hdy, t1, t2, hb⟩) (kH.snoc hdd) (kH.same.free hdd) upd_same
            by_cases ht : ∃ t, TabD dy t
            · rw [bP_t ht]
              refine iteF ?_
              obtain ⟨t, e, rfl, nt, ne⟩ := ht
              have dt' := dt.keep k5
              cases dt' with
              | @tup m' a' ys _ ry ly ay =>
                cases ay with
                | @cons _ y0 _ _ _ a0 ay =>
                  cases ay with
                  | @cons _ y1 _ _ _ a1 ay =>
                    cases ay
                    cases a0 with
                    | str _ hz =>
                      refine ⟨_, rfl, a', _, _, .str t.1, rfl, rfl, .inl (.inl ry), rfl, _, rfl, pn, _, rfl, .inl (SqL.of h2'), rfl, flat_strs _, _, rfl, ?_⟩
                      rw [inV_strs]
                      by_cases hm : t.1 ∈ tbs.map (·.1)
                      · rw [decide_eq_true hm]
                        refine iteT ?_
                        refine ⟨_, rfl, by simp, fun b hb => err_in hb fun dd hdd => bad ?_ dd hdd⟩
                        rintro ⟨t', h', hn'⟩
                        have := TabD.inj h' (show TabD (.tuple [.str t.1, e]) t from ⟨e, rfl, nt, ne⟩)
                        rw [this] at hn'
                        exact hn' hm
                      · rw [decide_eq_false hm]
                        refine iteF ?_
                        -- names.append(table[0])
                        have lt5 : i < 5 := by omega
                        have ltb : tbs.length = i := by
                          have := t1.len
                          rw [List.length_take] at this
                          omega
                        refine ⟨_, rfl, .inl ⟨rfl, _, SqL.of h2'⟩, _, rfl, a', _, _, .str t.1, rfl, rfl, .inl (.inl ry), rfl, pn, _, _, rfl, rfl, h2', by rw [List.length_map, List.length_map, ltb]; exact small1000 (by omega), ?_⟩
                        have npn : H1 pn = none := hn
                        have k6 : Kp [] H1 (upd H4 pn (.lst ((tbs.map (·.1)).map V.str ++ [.str t.1]))) := k5.late npn
                        have ry6 : ((upd H4 pn (.lst ((tbs.map (·.1)).map V.str ++ [.str t.1])))) a' = some (.tup [.str t.1, y1]) := (Kp.updL (ms := [pn]) h2' (by simp)).tp _ _ ry
                        have h36 : upd H4 pn (.lst ((tbs.map (·.1)).map V.str ++ [.str t.1])) pm = some (.lst ms) := by rw [upd_ne (Ne.symm npm)]; exact h3'
                        -- made.append((table[0], tuple(table[1])))
                        refine ⟨_, rfl, .inl ⟨rfl, _, SqL.of h36⟩, _, rfl, a', _, _, .str t.1, rfl, rfl, .inl (.inl ry6), rfl, _, rfl, a', _, _, y1, rfl, rfl, .inl (.inl ry6), rfl, ?_⟩
                        have fin : ∀ (H7 : Hp) (u : Addr), Kp [] (upd H4 pn (.lst ((tbs.map (·.1)).map V.str ++ [.str t.1]))) H7 → H7 u = some (.tup (t.2.map V.str)) → ∀ P', H7 P' = none →
                            (∃ v w : Option V, ([some (.ref p), some (.ref a), some (.ref pn), some (.ref pm), some (.int (i : Nat)), some (.ref a')] : L2.St) = [some (.ref p), some (.ref a), some (.ref pn), some (.ref pm), v, w]) ∧
                            Kp [] H1 (upd (upd H7 P' (.tup [.str t.1, .ref u])) pm (.lst (ms ++ [.ref P']))) ∧ ∃ (tbs : List (Str × List Str)) (ms' : List V), TabsD (ds.take (i + 1)) tbs ∧ (tbs.map (·.1)).Nodup ∧
                              upd (upd H7 P' (.tup [.str t.1, .ref u])) pm (.lst (ms ++ [.ref P'])) pn = some (.lst ((tbs.map (·.1)).map V.str)) ∧ upd (upd H7 P' (.tup [.str t.1, .ref u])) pm (.lst (ms ++ [.ref P'])) pm = some (.lst ms') ∧ ms'.length = i + 1 ∧ ImAll (upd (upd H7 P' (.tup [.str t.1, .ref u])) pm (.lst (ms ++ [.ref P']))) 2 ms' (tbs.map dTab) := by
                          intro H7 u k7 hu P' hP
                          have h37 : H7 pm = some (.lst ms) := k7.at_ _ _ h36 (fun z => nomatch z)
                          have k8 : Kp [pm] H7 (upd (upd H7 P' (.tup [.str t.1, .ref u])) pm (.lst (ms ++ [.ref P']))) := (Kp.new hP).trans (Kp.updL (by rw [upd_ne (ne_of_none h37 hP)]; exact h37) (by simp))
                          have hn7 : H7 pn = some (.lst ((tbs.map (·.1)).map V.str ++ [.str t.1])) := k7.at_ _ _ upd_same (fun z => nomatch z)
                          have uP : u ≠ P' := ne_of_none hu hP
                          have pP : P' ≠ pm := Ne.symm (ne_of_none h37 hP)
                          have hl2 := ne.2.2.2.2
                          have upm : u ≠ pm := fun z => by rw [z, h37] at hu; cases hu
                          refine ⟨⟨_, _, rfl⟩, ((k6.trans k7).snoc hP).late hm1, tbs ++ [t], ms ++ [.ref P'], ?_, ?_, ?_, upd_same, by simp [t3], ?_⟩
                          · rw [take_snoc hdy]; exact t1.snoc ⟨e, rfl, nt, ne⟩
                          · rw [List.map_append]; exact nd_snoc t2 hm
                          · rw [upd_ne npm, upd_ne (ne_of_none hn7 hP), hn7]; simp
                          · rw [List.map_append]
                            have km : Kp [pn, pm] H4 (upd (upd H7 P' (.tup [.str t.1, .ref u])) pm (.lst (ms ++ [.ref P']))) := ((Kp.updL h2' (by simp)).trans k7.zero).trans (k8.mono (by simp))
                            refine DtAll.append (ImAll.kp km t4') (.cons ?_ .nil)
                            refine .tup (by rw [upd_ne pP, upd_same]) ⟨by simp, _, by rw [upd_ne pP, upd_same]⟩ (.cons (.str _ hz) (.cons (.tup (by rw [upd_ne upm, upd_ne uP]; exact hu) ⟨by rw [List.length_map]; omega, _, by rw [upd_ne upm, upd_ne uP]; exact hu⟩ ?_) .nil))
                            exact dtAll_strs fun w' hw' => Nat.le_trans (ne.2.1 w' hw').2.1 (by decide)
                        rcases ne.1 with e1 | e1 <;> subst e1
                        · cases a1 with
                          | @lst _ b zs _ rb lb ab =>
                            have ez := DtAll.strs ab
                            subst ez
                            have rb6 : Rd (upd H4 pn (.lst ((tbs.map (·.1)).map V.str ++ [.str t.1]))) b (.lst (t.2.map V.str)) := (Kp.updL (ms := [pn]) h2' (by simp)).rd (by
                              intro z
                              have e' : b = pn := by simpa using z
                              exact lb.2.2 (by rw [e']; exact hn)) rb
                            refine ⟨b, _, rfl, .inl ⟨.inl rb6, fun u hu => ⟨by show 2 ≤ sizeLine; decide, fun P' hP => ?_⟩⟩⟩
                            have h38 : upd (upd (upd H4 pn (.lst ((tbs.map (·.1)).map V.str ++ [.str t.1]))) u (.tup (t.2.map V.str))) P' (.tup [.str t.1, .ref u]) pm = some (.lst ms) := by
                              have x1 : pm ≠ u := ne_of_none h36 hu
                              have x2 : pm ≠ P' := ne_of_none (by rw [upd_ne x1]; exact h36) hP
                              rw [upd_ne x2, upd_ne x1]; exact h36
                            refine ⟨pm, _, _, rfl, rfl, h38, by rw [t3]; exact small1000 (by omega), ?_⟩
                            exact fin _ u (Kp.new hu) upd_same P' hP
                        · cases a1 with
                          | @tup _ b zs _ rb lb ab =>
                            have ez := DtAll.strs ab
                            subst ez
                            have rb6 : ((upd H4 pn (.lst ((tbs.map (·.1)).map V.str ++ [.str t.1])))) b = some (.tup (t.2.map V.str)) := (Kp.updL (ms := [pn]) h2' (by simp)).tp _ _ rb
                            refine ⟨b, _, rfl, .inr ⟨.inl (.inl rb6), by show 2 ≤ sizeLine; decide, fun P' hP => ?_⟩⟩
                            have h38 : upd (upd H4 pn (.lst ((tbs.map (·.1)).map V.str ++ [.str t.1]))) P' (.tup [.str t.1, .ref b]) pm = some (.lst ms) := by
                              rw [upd_ne (ne_of_none h36 hP)]; exact h36
                            refine ⟨pm, _, _, rfl, rfl, h38, by rw [t3]; exact small1000 (by omega), ?_⟩
                            exact fin _ b (Kp.refl _) rb6 P' hP
            · rw [bP_f ht]
              refine iteT (iteT ?_)
              refine ⟨_, rfl, by simp, fun b hb => err_in hb fun dd hdd => bad ?_ dd hdd⟩
              rintro ⟨t, h', _⟩
              exact ht ⟨t, h'⟩
          · rintro σ H2 ⟨⟨v0, w0, rfl⟩, k2, tbs, ms, t1, t2, h2, h3, t3, t4⟩
            rw [el, List.take_length] at t1
            have kH : Kp [] H H2 := k1.trans k2
            have hp2 : H2 p = some (.ins C dx []) := kH.at_ _ _ hp (fun z => nomatch z)
            refine ⟨_, rfl, pm, _, rfl, .inl ⟨SqL.of h3, fun tt htt => ?_⟩⟩
            have pt : p ≠ tt := ne_of_none hp2 htt
            refine ⟨_, rfl, p, C, dx, [], rfl, by rw [upd_ne pt]; exact hp2, T.cl, T.nT, by show 0 < 1000; decide, ?_⟩
            refine kQ tbs _ ⟨ds, hrow, l1, l5, t1, t2⟩ (((kH.snoc htt).zero).trans (Kp.set (by rw [upd_ne pt]; exact hp2) (fun _ z => by cases z) (by simp))) ⟨dx, .ref tt, upd_same, ?_⟩
            have kf : Kp [p] H2 (upd (upd H2 tt (.tup ms)) p (.ins C dx (putF "tables" (.ref tt) []))) := (Kp.new htt).trans (Kp.set (by rw [upd_ne pt]; exact hp2) (fun _ z => by cases z) (by simp))
            refine .tup (by rw [upd_ne (Ne.symm pt), upd_same]) ⟨by rw [t3]; omega, _, by rw [upd_ne (Ne.symm pt), upd_same]⟩ (ImAll.kp kf t4)
end
end Fm

namespace PySem.W
open PySem PySem.Calls PyProof.Rows
section
variable {prog : Program} {w : World} {A : Around} {E : Value → Shared → Prop} {s : Shared} {K : Frag} {x C f L : Addr} {h₀ : Heap} {m : Str → Option Value} {ox : Obj} {od : Option Obj} {b tb : Value}
/-- a special name that the class leaves to a built-in -/
theorem fm_ifBound {M : Model} {nm : Str} {bid : String} {as : List Value} {Q : Option Value → Shared → Prop} (X : K.In s.heap) (I : InstAt s.heap x ox C od) (hs : findIn K (.ref C) nm = some (some (.builtin bid))) (hb : ∀ self, bindSpecial (.builtin bid) self = pure (.builtin bid, [self]))
    (h : wpAny M A (call (.builtin bid) (.ref x :: as)) (fun v => Q (some v)) E s) : wpAny M A (callSpecialIfBound? (.ref x) nm as) Q E s := by
  have last : wpAny M A (call (.builtin bid) ([.ref x] ++ as) >>= fun v => pure (some v)) Q E s := wpAny_bind (wpAny_mono h (fun _ _ q => wpAny_pure q) fun _ _ q => q)
  simp only [callSpecialIfBound?, bindSpecialIfBound?]
  refine wpAny_holding (wpAny_bind (wpAny_bind (wpAny_bind (I.type.here ((looks_findIn X hs).here ?_)))))
  refine wpAny_bind (wpAny_askSetting (wpAny_ite ?_))
  split
  · rw [hb]
    exact wpAny_bind (wpAny_pure (wpAny_pure (by exact last)))
  · rw [hb]
    exact wpAny_tryCatch (wpAny_bind (wpAny_pure (wpAny_pure (by exact last))))
/-- a != b by object.__ne__ over the class's own __eq__ -/
theorem fm_ne {Q : Value → Shared → Prop} (hu : A.units + 1 < cLine) (F : Fr h₀ L s.heap m) (X₀ : K.In h₀) (I : InstAt s.heap x ox C od) (hb : Looks (model prog w) s.heap (typeOf b) tb) (hn : notFirst K C tb = true)
    (hne : findIn K (.ref C) "__ne__" = some (some (.builtin "object.__ne__"))) (heq : findIn K (.ref C) "__eq__" = some (some (.ref f))) (hf : isFn K (.ref f) = true) (hob : subIn K (.ref C) (.type "object") = some true)
    (h : wpAny (model prog w) A.in1 (call (.ref f) [.ref x, b]) (fun v s' => ∃ r, v = .bool r ∧ Q (.bool (!r)) s') E s) : wpAny (model prog w) A (richCompare .NotEq (.ref x) b) Q E s := by
  have X := X₀.keeps F.keep
  have one : wpAny (model prog w) A (tryCompare (.ref x) "__ne__" b) (fun r s' => ∃ v, r = some v ∧ Q v s') E s := by
    unfold tryCompare
    refine wpAny_bind (fm_ifBound X I hne PySem.F.cmp_object.ne.bind ?_)
    have sub : Looks (model prog w) s.heap (isInstance (.ref x) (.type "object")) true := (I.type (M := model prog w)).andThen (looks_subIn X hob)
    refine wpAny_call (codeAny_call_builtin PySem.F.cmp_object.ne.plain PySem.F.cmpEntry_ne (check_slot PySem.F.cmpKind_ne PySem.F.cmpSplit_ne sub (PySem.F.cmpArgs_ne _ _) ?_))
    unfold Builtin.«object.__ne__»
    refine wpAny_bind (wpAny_of_eq (a := ((Value.ref x : Value), [b])) (by first | rfl | (simp only [slotArgs]; rfl)) ?_)
    refine wpAny_bind (wpAny_cRoomFor hu ?_)
    refine wpAny_bind (ifBound_K X I heq hf (wpAny_mono h (fun v s' hv => ?_) fun _ _ e => e))
    obtain ⟨r, rfl, q⟩ := hv
    refine wpAny_bind (wpAny_truthy_bool ?_)
    exact wpAny_pure (wpAny_pure ⟨_, rfl, q⟩)
  unfold richCompare
  simp only [oneThing_ref]
  refine wpAny_holding (wpAny_bind (wpAny_cRoomFor (Nat.lt_of_succ_lt hu) ?_))
  refine wpAny_bind (I.type.here (wpAny_bind (hb.here ?_)))
  split
  · rename_i q
    have e : subIn K tb (.ref C) = some false := by
      rcases Bool.or_eq_true_iff.mp hn with e | e
      · rw [beq_iff_eq.mp e] at q; simp at q
      · exact beq_iff_eq.mp e
    refine wpAny_bind ((looks_subIn X e).here ?_)
    simp only [Bool.false_eq_true, if_false]
    refine wpAny_bind (wpAny_mono one (fun r s' z => ?_) fun _ _ e => e)
    obtain ⟨v, rfl, hq⟩ := z
    exact wpAny_pure hq
  · refine wpAny_bind (wpAny_pure ?_)
    simp only [Bool.false_eq_true, if_false]
    refine wpAny_bind (wpAny_mono one (fun r s' z => ?_) fun _ _ e => e)
    obtain ⟨v, rfl, hq⟩ := z
    exact wpAny_pure hq
end
end PySem.W
namespace Fm
open PySem PySem.Spec PyProof.Rows L2
/-- what the top says of a class with an own ==, the right side being of type t -/
structure EqC (K : PySem.W.Frag) (C f : Addr) : Prop where
  eq : PySem.W.findIn K (.ref C) "__eq__" = some (some (.ref f))
  fn : PySem.W.isFn K (.ref f) = true
  ne : PySem.W.findIn K (.ref C) "__ne__" = some (some (.builtin "object.__ne__"))
  ob : PySem.W.subIn K (.ref C) (.type "object") = some true
section
variable {X : Cx} {CX : CXT} {C f : Addr} {fd : FuncData} {ps : List Str} {sp : Sp} {k : Nat} {E : XK}
def rEqO (K : PySem.W.Frag) (C : Addr) (sp : Sp) (E : XK) : R2 := fun x y H Q => ∃ (a dx : Addr) (fs : List (Str × V)) (t : Value), x = .ref a ∧ H a = some (.ins C dx fs) ∧ TyX K H y t ∧ PySem.W.notFirst K C t = true ∧ sp [x, y] H (fun v H' => ∃ b, v = .bl b ∧ Q (.bl b) H') E
def rNeO (K : PySem.W.Frag) (C : Addr) (sp : Sp) (E : XK) : R2 := fun x y H Q => ∃ (a dx : Addr) (fs : List (Str × V)) (t : Value), x = .ref a ∧ H a = some (.ins C dx fs) ∧ TyX K H y t ∧ PySem.W.notFirst K C t = true ∧ sp [x, y] H (fun v H' => ∃ b, v = .bl b ∧ Q (.bl (!b)) H') E
theorem op_eqO (T : EqC X.K C f) (F : FnOk X.prog X.w X.K X.mg X.base CX k f fd ps sp) (hb : Binds X.K fd ps []) (hx : Passes CX X E) (hr : Room k X.A) : OpR X (compareOp .Eq) (rEqO X.K C sp E) := by
  intro pins s σ H x y u v Q I rx ry h
  obtain ⟨a, dx, fs, t, rfl, ha, ty, nf, q⟩ := h
  cases rx
  obtain ⟨mA, J, _⟩ := ins_get I.hok ha
  obtain ⟨od, J, _⟩ := J.look
  obtain ⟨m, hF⟩ := I.fr
  obtain ⟨P, Z, p, _⟩ := kit_of I ry ty
  show wpAny (model X.prog X.w) X.A (richCompare .Eq (.ref a) v) (EP X pins σ Q) X.xe s
  refine PySem.W.cmp_K (op := .Eq) (tb := t) hr.units0 hF I.ok.mod.kin J (Z.ty _ _ I.kIn p) nf T.eq T.fn ?_
  refine wpAny_mono (run_fn (vs := [.ref a, y]) F hr hb .nil hx I (.cons rfl (.cons ry .nil)) q) (fun w s' hw => ?_) fun _ _ e => e
  obtain ⟨z, H', I', rz, b, rfl, qb⟩ := hw
  cases rz
  exact ⟨.bl b, H', I', rfl, qb⟩
theorem op_neO (T : EqC X.K C f) (F : FnOk X.prog X.w X.K X.mg X.base CX k f fd ps sp) (hb : Binds X.K fd ps []) (hx : Passes CX X E) (hr : Room (k + 1) X.A) : OpR X (compareOp .NotEq) (rNeO X.K C sp E) := by
  intro pins s σ H x y u v Q I rx ry h
  obtain ⟨a, dx, fs, t, rfl, ha, ty, nf, q⟩ := h
  cases rx
  obtain ⟨mA, J, _⟩ := ins_get I.hok ha
  obtain ⟨od, J, _⟩ := J.look
  obtain ⟨m, hF⟩ := I.fr
  obtain ⟨P, Z, p, _⟩ := kit_of I ry ty
  have hu : X.A.units + 1 < cLine := hu_of hr
  show wpAny (model X.prog X.w) X.A (richCompare .NotEq (.ref a) v) (EP X pins σ Q) X.xe s
  refine PySem.W.fm_ne (tb := t) hu hF I.ok.mod.kin J (Z.ty _ _ I.kIn p) nf T.ne T.eq T.fn T.ob ?_
  have e0 : Env0 X.prog X.w X.K X.mg X.base X.A.in1 X.stack s H := by
    have e := I.env0
    exact ⟨e.frames, e.mod, e.bs, e.bsz, e.funs, e.frf, e.hok, e.bare⟩
  have r2 : Vals [V.ref a, y] [Value.ref a, v] := .cons rfl (.cons ry .nil)
  have hl := F.len _ _ _ _ q
  refine wpAny_call (codeAny_mono (F.run X.A.in1 X.stack s H ⟨[.ref a, v], []⟩ [.ref a, v] [.ref a, y] _ E hr.in1 e0 (by
    have := hb s [.ref a, v] I.kIn (by simpa using hl)
    simpa using this) r2 q) fun r s' hq => ?_)
  cases r with
  | error e => exact hx pins σ H s e s' I hq
  | ok fl =>
    cases fl with
    | ret w =>
      obtain ⟨z, H', I', rz, b, rfl, qb⟩ := I.after hq
      cases rz
      exact ⟨b, rfl, .bl (!b), H', I', rfl, qb⟩
    | next => exact False.elim hq
    | brk => exact False.elim hq
    | cont => exact False.elim hq
end
end Fm

namespace Fm
open PySem PySem.Spec PyProof.Rows L2
/-! ### tables as data: equal as Python sees them -/
def GoodT (t : Str × List Str) : Prop := IsNm t.1 ∧ (∀ w ∈ t.2, IsNm w) ∧ t.2.Nodup ∧ 1 ≤ t.2.length ∧ t.2.length ≤ 4
def GoodTs (tbs : List (Str × List Str)) : Prop := (∀ t ∈ tbs, GoodT t) ∧ (tbs.map (·.1)).Nodup ∧ 1 ≤ tbs.length ∧ tbs.length ≤ 5
theorem TabD.good {d : PyData} {t : Str × List Str} (h : TabD d t) : GoodT t := by
  obtain ⟨e, _, n, m⟩ := h
  exact ⟨n, m.2.1, m.2.2.1, m.2.2.2.1, m.2.2.2.2⟩
theorem TabsD.good : ∀ {ds : List PyData} {ts : List (Str × List Str)}, TabsD ds ts → ∀ t ∈ ts, GoodT t
  | _, _, .cons a b, t, h => by
    rcases List.mem_cons.mp h with rfl | h
    · exact a.good
    · exact b.good t h
theorem ShpD.good {d : PyData} {ts : List (Str × List Str)} (h : ShpD d ts) : GoodTs ts := by
  obtain ⟨ds, _, l1, l5, t1, t2⟩ := h
  exact ⟨t1.good, t2, by rw [← t1.len]; exact l1, by rw [← t1.len]; exact l5⟩
theorem eqv_strs : ∀ ws vs : List Str, PyData.eqvAll (ws.map .str) (vs.map .str) = decide (ws = vs)
  | [], [] => by simp [PyData.eqvAll]
  | [], _ :: _ => by simp [PyData.eqvAll]
  | _ :: _, [] => by simp [PyData.eqvAll]
  | w :: ws, v :: vs => by
    simp only [List.map_cons, PyData.eqvAll, PyData.eqv, eqv_strs ws vs]
    by_cases h : w = v
    · subst h; simp
    · simp [h]
theorem eqv_tab (t u : Str × List Str) : PyData.eqv (dTab t) (dTab u) = decide (t = u) := by
  simp only [dTab, PyData.eqv, PyData.eqvAll, eqv_strs]
  by_cases h : t.1 = u.1
  · by_cases h' : t.2 = u.2
    · have : t = u := Prod.ext h h'
      subst this; simp
    · have : t ≠ u := fun z => h' (by rw [z])
      simp [h', this]
  · have : t ≠ u := fun z => h (by rw [z])
    simp [h, this]
theorem eqv_tabsL : ∀ ts us : List (Str × List Str), PyData.eqvAll (ts.map dTab) (us.map dTab) = decide (ts = us)
  | [], [] => by simp [PyData.eqvAll]
  | [], _ :: _ => by simp [PyData.eqvAll]
  | _ :: _, [] => by simp [PyData.eqvAll]
  | t :: ts, u :: us => by
    simp only [List.map_cons, PyData.eqvAll, eqv_tab, eqv_tabsL ts us]
    by_cases h : t = u
    · subst h; simp
    · simp [h]
theorem eqv_tabs (ts us : List (Str × List Str)) : PyData.eqv (dTabs ts) (dTabs us) = decide (ts = us) := by
  simp only [dTabs, PyData.eqv, eqv_tabsL]
theorem strOk_nm {w : Str} (h : IsNm w) : PyData.strOk w = true := by
  unfold PyData.strOk
  rw [Array.all_eq_true']
  intro c hc
  have := h.2.2 c (by simpa using hc)
  simp
  omega
theorem lay_strs : ∀ {ws : List Str}, (∀ w ∈ ws, IsNm w) → PyData.canLayAll0 (ws.map .str) = true
  | [], _ => by simp [PyData.canLayAll0]
  | w :: ws, h => by
    simp only [List.map_cons, PyData.canLayAll0, PyData.canLay0, strOk_nm (h w List.mem_cons_self), lay_strs fun x hx => h x (List.mem_cons_of_mem _ hx), Bool.and_self]
theorem lay_tabs : ∀ {ts : List (Str × List Str)}, (∀ t ∈ ts, GoodT t) → PyData.canLayAll0 (ts.map dTab) = true
  | [], _ => by simp [PyData.canLayAll0]
  | t :: ts, h => by
    have g := h t List.mem_cons_self
    simp only [List.map_cons, PyData.canLayAll0, dTab, PyData.canLay0, strOk_nm g.1, lay_strs g.2.1, lay_tabs fun x hx => h x (List.mem_cons_of_mem _ hx), Bool.and_self]
theorem dep_strs : ∀ ws : List Str, PyData.depthAll (ws.map .str) = 0
  | [] => by simp [PyData.depthAll]
  | w :: ws => by simp [PyData.depthAll, PyData.depth, dep_strs ws]
theorem dep_tabs : ∀ ts : List (Str × List Str), PyData.depthAll (ts.map dTab) ≤ 2
  | [] => by simp [PyData.depthAll]
  | t :: ts => by
    have := dep_tabs ts
    simp only [List.map_cons, PyData.depthAll, dTab, PyData.depth, dep_strs]
    omega
theorem shaped_tabs {ts : List (Str × List Str)} (h : ∀ t ∈ ts, GoodT t) : SeqAt.shaped (dTabs ts) = true := by
  have := dep_tabs ts
  unfold SeqAt.shaped
  simp only [dTabs, PyData.canLay0, PyData.depth, lay_tabs h, Bool.true_and, decide_eq_true_eq]
  omega
mutual
theorem Dt.dp {S : Addr → Prop} {q : Bool} {H : Hp} {K : PySem.W.Frag} : ∀ {n : Nat} {v : V} {d : PyData}, Dt S q H n v d → d.canLay0 = true → Dp K H v d
  | _, _, _, .non, _ => .non
  | _, _, _, .bl b, _ => .bl b
  | _, _, _, .int b, _ => .int b
  | _, _, _, .str b h, _ => .str b
  | _, _, _, .lst r l a, h => .lst (.inl r) (DtAll.dp a (by simpa [PyData.canLay0] using h))
  | _, _, _, .tup r l a, h => .tup (.inl (.inl r)) (DtAll.dp a (by simpa [PyData.canLay0] using h))
  | _, _, _, .dic r l a, h => by simp [PyData.canLay0] at h
theorem DtAll.dp {S : Addr → Prop} {q : Bool} {H : Hp} {K : PySem.W.Frag} : ∀ {n : Nat} {v : List V} {d : List PyData}, DtAll S q H n v d → PyData.canLayAll0 d = true → DpAll K H v d
  | _, _, _, .nil, _ => .nil
  | _, _, _, .cons a b, h => by
    have h' := Bool.and_eq_true_iff.mp (show (_ && _) = true by simpa only [PyData.canLayAll0] using h)
    exact .cons (Dt.dp a h'.1) (DtAll.dp b h'.2)
end
theorem lay_dTabs {ts : List (Str × List Str)} (h : ∀ t ∈ ts, GoodT t) : (dTabs ts).canLay0 = true := by
  simp only [dTabs, PyData.canLay0, lay_tabs h]
/-- an instance's class, as isinstance asks of it -/
structure InsX (K : PySem.W.Frag) (C : Addr) : Prop where
  cl : Cls K C
  ha : PySem.W.findIn K (.ref C) "__class__" = some (some (.builtin "object.__class__"))
  hn : PySem.W.specialIn K (.builtin "object.__class__") "__get__" = some (some (.builtin "getset_descriptor.__get__"))
  htk : PySem.W.takesIn K (.builtin "object.__class__") = some true
  hm : PySem.W.mroIn K C (.type "object") = some true
  dat : ∀ T ∈ ["NoneType", "bool", "int", "str", "list", "tuple", "dict"], PySem.W.kitOne K (.type T) (.ref C) = some false
theorem InsX.ty {K : PySem.W.Frag} {C : Addr} (T : InsX K C) {H : Hp} {a dx : Addr} {fs : List (Str × V)} (e : H a = some (.ins C dx fs)) : TyX K H (.ref a) (.ref C) := .base (.ins e T.cl T.ha T.hn T.htk T.hm)
theorem InsX.datD {K : PySem.W.Frag} {C : Addr} (T : InsX K C) (d : PyData) : PySem.W.kitOne K (.type (tyS d)) (.ref C) = some false := T.dat _ (by cases d <;> simp [tyS])
theorem kit_self {K : PySem.W.Frag} {C : Addr} : PySem.W.kitOne K (.ref C) (.ref C) = some true := by
  unfold PySem.W.kitOne
  rw [if_pos (by simp)]
def spShEq (C : Addr) : Sp := fun vs H Q _ => ∃ (p : Addr) (y : V) (tbs : List (Str × List Str)), vs = [.ref p, y] ∧ ShapeAt C H p tbs ∧ (∀ t ∈ tbs, GoodT t) ∧
  ((∃ p' us, y = .ref p' ∧ ShapeAt C H p' us ∧ (∀ t ∈ us, GoodT t) ∧ Q (.bl (decide (tbs = us))) H) ∨ ∃ S q n d, Dt S q H n y d ∧ Q (.bl false) H)
def spFields (C CE : Addr) : Sp := fun vs H Q E => ∃ (p : Addr) (S : Addr → Prop) (q : Bool) (n : Nat) (x : V) (d : PyData) (tbs : List (Str × List Str)), vs = [.ref p, x] ∧ ShapeAt C H p tbs ∧ (tbs.map (·.1)).Nodup ∧ Dt S q H n x d ∧
  (∀ t ∈ tbs, d = .str t.1 → ∀ a : Addr, Im H 2 (.ref a) (.tuple (t.2.map .str)) → Q (.ref a) H) ∧
  ((∀ t ∈ tbs, d ≠ .str t.1) → ∀ (dd : Addr) (H' : Hp), Kp [] H H' → H dd = none → H' dd = some (.xd [("value", x)]) → E (.ref CE) (some dd) H')
section
variable {P : Program} {w : World} {K : PySem.W.Frag} {mg : Str → Option Value} {base : Heap}
theorem ok_shape_eq {f C : Addr} {fd : FuncData} (B : Bi mg) (F : Fun K "__eq__" "Shape.__eq__" s_Shape_eq f fd) (T : ShCls K mg C) (X : InsX K C) : FnOk P w K mg base CX0 1 f fd ["self", "other"] (spShEq C) := by
  refine F.ok sc_Shape_eq (fun vs H Q E h => ?_) (fun cdv A outer s H vs Q E hr h => ?_)
  · obtain ⟨p, y, tbs, rfl, _⟩ := h; rfl
  · obtain ⟨p, y, tbs, rfl, ⟨dx, v, hp, iv⟩, g, h⟩ := h
    refine ⟨_, (pss_one (ps_ret (pe_and (pe_callB call_isi (by rfl) B.isinstance (by decide +kernel) (pa_cons (pv 1) (pa_cons (pe_glob (v := .ref C) rfl T.mgC rfl) pa_nil))) (pe_one (pe_cmpR (op_eqD hr.units) (pe_fld (pv 0) rfl) (pe_fld (pv 1) rfl) (nomark _)))))), ?_⟩
    rcases h with ⟨p', us, rfl, ⟨dx', v', hp', iv'⟩, g', q⟩ | ⟨S, qq, n, d, hd, q⟩
    · refine ⟨_, rfl, _, _, _, _, _, rfl, .own C, X.ty hp', kit_self, _, rfl, iteT ?_⟩
      refine ⟨_, rfl, p, C, dx, _, _, rfl, hp, T.cl, T.nT, rfl, _, rfl, p', C, dx', _, _, rfl, hp', T.cl, T.nT, rfl, ?_⟩
      refine ⟨_, _, iv.dp (lay_dTabs g), iv'.dp (lay_dTabs g'), shaped_tabs g, shaped_tabs g', ?_⟩
      rw [eqv_tabs]
      exact q
    · exact ⟨_, rfl, _, _, _, _, _, rfl, .own C, hd.ty, X.datD d, _, rfl, iteF q⟩
theorem Im.tab {H : Hp} {n : Nat} {v : V} {t : Str × List Str} (h : Im H (n + 2) v (dTab t)) : ∃ a b, v = .ref a ∧ H a = some (.tup [.str t.1, .ref b]) ∧ Im H (n + 1) (.ref b) (.tuple (t.2.map .str)) := by
  cases h with
  | tup r l a =>
    cases a with
    | cons a0 a =>
      cases a with
      | cons a1 a =>
        cases a
        cases a0
        cases id a1 with
        | tup r1 l1 a11 => exact ⟨_, _, rfl, r, a1⟩
theorem ok_fields_of {f C CE : Addr} {fd : FuncData} (B : Bi mg) (F : Fun K "fields_of" "Shape.fields_of" s_Shape_fields_of f fd) (T : ShCls K mg C) (ER : ∀ base, Err P w K mg base "BadName" "value" CE) :
    FnOk P w K mg base (L2.CX P w) 3 f fd ["self", "name"] (spFields C CE) := by
  refine F.okX sc_Shape_fields_of (fun vs H Q E h => ?_) (fun cdv A outer s H vs Q E hr h => ?_)
  · obtain ⟨p, S, q, n, x, d, tbs, rfl, _⟩ := h; rfl
  · obtain ⟨p, S, q, n, x, d, tbs, rfl, ⟨dx, v, hp, iv⟩, nd, hx, kQ, kE⟩ := h
    have ER := ER base
    refine ⟨_, (C8.pss_cut (ps_if (pt_val (pe_callB call_isi (by rfl) B.isinstance (by decide +kernel) (pa_cons (pv 1) (pa_cons (pe_bltn (v := .ty "str") (by rfl) B.str (by decide +kernel) rfl) pa_nil))))
  (pss_one (ps_for (passes_of rfl) rfl (pi_tup (pe_fld (pv 0) rfl)) (pg_tup rfl (pgs_cons (pg_name (i := 2) sc_Shape_fields_of.nd rfl (by first | exact Or.inl rfl | exact Or.inr rfl)) (pgs_cons (pg_name (i := 3) sc_Shape_fields_of.nd rfl (by first | exact Or.inl rfl | exact Or.inr rfl)) pgs_nil)))
  (pss_one (ps_if (pt_cmpR op_eq (pv 2) (pv 1) (nomark _))
  (pss_one (ps_ret (pv 3)))
  pss_nil))))
  pss_nil)
  (pss_one (ps_raiseE rfl ER hr (by decide) (takes_of rfl rfl rfl rfl) (pa_cons (pv 1) pa_nil)))), ?_⟩
    refine ⟨fun σ H' => (∃ v w : Option V, σ = [some (.ref p), some x, v, w]) ∧ H' = H ∧ ∀ t ∈ tbs, d ≠ .str t.1, ?_, ?_⟩
    · refine ⟨_, rfl, _, _, _, _, _, rfl, .ty _, hx.ty, kit_ty (kb_str _), _, rfl, ?_⟩
      cases hx with
      | str z hz =>
        refine iteT ?_
        cases id iv with
        | @tup m a vs _ r l av =>
          have el : vs.length = (tbs.map dTab).length := av.len
          refine ⟨_, rfl, p, C, dx, _, _, rfl, hp, T.cl, T.nT, rfl, a, rfl, ⟨_, .inl (.inl r)⟩, ?_⟩
          refine for_it (walk_tup (xs := vs)) (fun i σ H' => (∃ v w : Option V, σ = [some (.ref p), some (.str z), v, w]) ∧ H' = H ∧ ∀ t ∈ tbs.take i, z ≠ t.1) ⟨⟨none, none, rfl⟩, rfl, (fun t h => by cases h)⟩ (fun _ _ _ _ ⟨_, e, _⟩ => by rw [e]; exact .inl (.inl r)) ?_ ?_
          · rintro i u σ H1 H2 hi ⟨⟨v0, w0, rfl⟩, rfl, hj⟩ ⟨rfl, hu⟩
            obtain ⟨du, hdu, dt⟩ := av.getV hu
            rw [List.getElem?_map] at hdu
            cases et : tbs[i]? with
            | none => rw [et] at hdu; cases hdu
            | some t =>
              rw [et] at hdu
              cases hdu
              obtain ⟨a', b', rfl, h1, h2⟩ := Im.tab (n := 0) dt
              refine ⟨a', _, rfl, SqT.of h1, rfl, _, _, rfl, _, _, rfl, rfl, ?_⟩
              refine ⟨_, rfl, _, rfl, rfl, _, rfl, ?_⟩
              by_cases hz' : t.1 = z
              · rw [decide_eq_true (show V.str t.1 = V.str z by rw [hz'])]
                refine iteT ?_
                exact ⟨_, rfl, kQ t (List.mem_of_getElem? et) (by rw [hz']) b' (h2.mono (by decide))⟩
              · rw [decide_eq_false (fun e => hz' (by injection e))]
                refine iteF ?_
                refine ⟨⟨_, _, rfl⟩, rfl, fun u hu' => ?_⟩
                rw [take_snoc et] at hu'
                rcases List.mem_append.mp hu' with h | h
                · exact hj u h
                · rw [List.mem_singleton.mp h]; exact fun e => hz' e.symm
          · rintro σ H1 ⟨⟨v0, w0, rfl⟩, rfl, hj⟩
            refine ⟨⟨_, _, rfl⟩, rfl, fun t ht e => ?_⟩
            rw [List.length_map] at el
            rw [el, List.take_length] at hj
            exact hj t ht (by injection e)
      | _ =>
        refine iteF ?_
        exact ⟨⟨_, _, rfl⟩, rfl, fun t _ e => by cases e⟩
    · rintro σ' H1 ⟨⟨v0, w0, rfl⟩, rfl, hn⟩
      exact ⟨_, rfl, by simp, fun b hb => err_in hb fun dd hdd => kE hn dd _ (Kp.new hdd) hdd upd_same⟩
end
end Fm

namespace Fm
open PySem PySem.Spec PyProof.Rows L2
theorem Kp.via {ms ms' : List Addr} {H H1 H2 : Hp} (k1 : Kp ms H H1) (k2 : Kp ms' H1 H2) (h : ∀ x ∈ ms', x ∈ ms ∨ H x = none) : Kp ms H H2 := by
  refine ⟨fun a o e n => k2.at_ a o (k1.at_ a o e n) fun z => ?_, fun a xs e => k2.tp a xs (k1.tp a xs e)⟩
  rcases h a z with h | h
  · exact n h
  · rw [h] at e
    cases e
theorem Bag.new {H : Hp} {b c p : Addr} (B : Bag H b c) (h : H p = none) : p ≠ b ∧ p ≠ c := by
  obtain ⟨o, ho⟩ := B.someB
  obtain ⟨o', ho'⟩ := B.someC
  refine ⟨fun z => ?_, fun z => ?_⟩
  · rw [← z, h] at ho
    cases ho
  · rw [← z, h] at ho'
    cases ho'
def spTables : Sp := fun vs H Q _ => ∃ (b c : Addr), vs = [.ref b] ∧ Bag H b c ∧ ∀ (t : Addr) (xs : List V) (tbs : List (Str × List Str)) (H' : Hp), Bag H' b c → Kp [b] H H' → H t = none → H' t = some (.lst xs) → ImAll H' 2 xs (tbs.map dTab) → GoodTs tbs → Q (.ref t) H'
theorem five : ∀ n : Nat, n < 5 → ∃ k : Nat, ([V.int 2, V.int 1, V.int 2, V.int 3, V.int 5] : List V)[n]? = some (.int k) ∧ 1 ≤ k ∧ k ≤ 5
  | 0, _ => ⟨2, rfl, by decide, by decide⟩
  | 1, _ => ⟨1, rfl, by decide, by decide⟩
  | 2, _ => ⟨2, rfl, by decide, by decide⟩
  | 3, _ => ⟨3, rfl, by decide, by decide⟩
  | 4, _ => ⟨5, rfl, by decide, by decide⟩
  | n + 5, h => absurd h (by omega)
section
variable {P : Program} {w : World} {K : PySem.W.Frag} {mg : Str → Option Value} {base : Heap}
theorem ok_tables (B : Bi mg) (D : Dfn K mg "_law_tables" s__law_tables ["_law_bag_here"]) (G_pick : Has P w K mg base CX0 "_law_pick" ["_law_bag_here", "_law_many"] 1 spPick) (G_name : Has P w K mg base CX0 "_law_name" ["_law_bag_here", "_law_taken"] 2 spName) :
    Has P w K mg base CX0 "_law_tables" ["_law_bag_here"] 3 spTables := by
  refine D.has sc__law_tables (fun vs H Q E h => ?_) (fun f cdv A outer s H vs Q E hr h => ?_)
  · obtain ⟨b, c, rfl, _⟩ := h; rfl
  · obtain ⟨b, c, rfl, BG, k⟩ := h
    have hr1 : Room 1 _ := hr.mono (by decide)
    refine ⟨_, (pss_cons (ps_set (i := 1) sc__law_tables.nd rfl (by first | exact Or.inl rfl | exact Or.inr rfl) (pe_lst pa_nil))
  (pss_cons (ps_set (i := 2) sc__law_tables.nd rfl (by first | exact Or.inl rfl | exact Or.inr rfl) (pe_lst pa_nil))
  (pss_cons (ps_for PassesOwn.never rfl (pi_range1 rfl B.range (pa_cons (pe_ix ix_list (pe_lst (pa_cons pe_int (pa_cons pe_int (pa_cons pe_int (pa_cons pe_int (pa_cons pe_int pa_nil)))))) (pe_has G_pick hr1 (pa_cons (pv 0) (pa_cons pe_int pa_nil))) (fun _ _ => rfl)) pa_nil)) (pg_name (i := 3) sc__law_tables.nd rfl (by first | exact Or.inl rfl | exact Or.inr rfl))
  (pss_cons (ps_set (i := 4) sc__law_tables.nd rfl (by first | exact Or.inl rfl | exact Or.inr rfl) (pe_has G_name hr (pa_cons (pv 0) (pa_cons (pv 1) pa_nil))))
  (pss_cons (ps_set (i := 5) sc__law_tables.nd rfl (by first | exact Or.inl rfl | exact Or.inr rfl) (pe_lst pa_nil))
  (pss_cons (ps_for PassesOwn.never rfl (pi_range1 rfl B.range (pa_cons (pe_op op_add pe_int (pe_has G_pick hr1 (pa_cons (pv 0) (pa_cons pe_int pa_nil)))) pa_nil)) (pg_name (i := 6) sc__law_tables.nd rfl (by first | exact Or.inl rfl | exact Or.inr rfl))
  (pss_one (ps_expr (pe_has G_name hr (pa_cons (pv 0) (pa_cons (pv 5) pa_nil))))))
  (pss_one (ps_expr (pe_bm PySem.F.plainAttrs_list PySem.F.slot_list_append PySem.F.type_list_append mt_append (pv 2) (pa_cons (pe_tup (pa_cons (pv 4) (pa_cons (pe_callTy call_tuple_of (by rfl) B.tuple (by decide +kernel) (pa_cons (pv 5) pa_nil)) pa_nil))) pa_nil))))))))
  (pss_one (ps_ret (pv 2)))))), ?_⟩
    refine ⟨by show 0 ≤ sizeLine; decide, fun pt npt => ⟨by show 0 ≤ sizeLine; decide, fun pl npl => ⟨by show 5 ≤ sizeLine; decide, fun p5 np5 => ?_⟩⟩⟩
    have tl : pt ≠ pl := fun z => by rw [← z, upd_same] at npl; cases npl
    have hpl : H pl = none := by rw [upd_ne (Ne.symm tl)] at npl; exact npl
    have k0 : Kp [] H (upd (upd (upd H pt (.lst [])) pl (.lst [])) p5 (.lst [.int 2, .int 1, .int 2, .int 3, .int 5])) := ((Kp.new npt).snoc npl).snoc np5
    have e1 : upd (upd (upd H pt (.lst [])) pl (.lst [])) p5 (.lst [.int 2, .int 1, .int 2, .int 3, .int 5]) pt = some (.lst []) := by
      have x1 : pt ≠ p5 := fun z => by rw [← z, upd_ne tl, upd_same] at np5; cases np5
      rw [upd_ne x1, upd_ne tl, upd_same]
    have e2 : upd (upd (upd H pt (.lst [])) pl (.lst [])) p5 (.lst [.int 2, .int 1, .int 2, .int 3, .int 5]) pl = some (.lst []) := by
      have x1 : pl ≠ p5 := fun z => by rw [← z, upd_same] at np5; cases np5
      rw [upd_ne x1, upd_same]
    have e3 : upd (upd (upd H pt (.lst [])) pl (.lst [])) p5 (.lst [.int 2, .int 1, .int 2, .int 3, .int 5]) p5 = some (.lst [.int 2, .int 1, .int 2, .int 3, .int 5]) := upd_same
    obtain ⟨tb, tc⟩ := BG.new npt
    obtain ⟨lb, lc⟩ := BG.new hpl
    refine ⟨_, rfl, b, c, 5, rfl, BG.keep0 k0, by decide, by decide, fun r H1 r0 r1 B1 k1 => ?_⟩
    have p5b : p5 ≠ b := (BG.keep0 ((Kp.new npt).snoc npl) |>.new np5).1
    have f1 : H1 pt = some (.lst []) := k1.at_ _ _ e1 (by simpa using tb)
    have f2 : H1 pl = some (.lst []) := k1.at_ _ _ e2 (by simpa using lb)
    have f3 : H1 p5 = _ := k1.at_ _ _ e3 (by simpa using p5b)
    have kH1 : Kp [b] H H1 := k0.zero.trans k1
    obtain ⟨kk, hk, kk1, kk5⟩ := five r.toNat (by omega)
    refine ⟨p5, _, r, .int kk, rfl, rfl, SqL.of f3, atI_of r0 hk, (kk : Int), rfl, by omega, by omega, ?_⟩
    refine for_range (lo := 0) (n := (kk : Int).toNat) (fun i σ H' => (∃ v3 v4 v5 v6 : Option V, σ = [some (.ref b), some (.ref pt), some (.ref pl), v3, v4, v5, v6]) ∧ Bag H' b c ∧ Kp [b] H H' ∧
        ∃ (tbs : List (Str × List Str)) (xs : List V), tbs.length = i ∧ H' pt = some (.lst ((tbs.map (·.1)).map V.str)) ∧ H' pl = some (.lst xs) ∧ xs.length = i ∧ ImAll H' 2 xs (tbs.map dTab) ∧ (∀ t ∈ tbs, GoodT t) ∧ (tbs.map (·.1)).Nodup)
      ⟨⟨none, none, none, none, rfl⟩, B1, kH1, [], [], rfl, f1, f2, rfl, .nil, (fun t h => nomatch h), List.nodup_nil⟩ ?_ ?_
    · rintro i σ H2 hi ⟨⟨v3, v4, v5, v6, rfl⟩, B2, k2, tbs, xs, t1, t2, t3, t4, t5, t6, t7⟩
      have hi5 : i < 5 := by omega
      refine ⟨_, rfl, _, rfl, b, c, pt, tbs.map (·.1), rfl, B2, t2, tb, tc, by rw [List.length_map]; omega, fun w1 H3 n1 nm1 B3 h3 k3 => ?_⟩
      have k3' : Kp [b] H H3 := k2.via k3 (by simp [npt])
      have lt : pl ∉ [b, pt] := by simp [lb, Ne.symm tl]
      have g3 : H3 pl = some (.lst xs) := k3.at_ _ _ t3 lt
      have i3 : ImAll H3 2 xs (tbs.map dTab) := ImAll.kp k3 t5
      refine ⟨by show 0 ≤ sizeLine; decide, fun pf npf => ?_⟩
      obtain ⟨fb, fc⟩ := B3.new npf
      have ft : pf ≠ pt := Ne.symm (ne_of_none h3 npf)
      have fl : pf ≠ pl := Ne.symm (ne_of_none g3 npf)
      have hpf : H pf = none := k3'.freeB B3 npf
      have k4 : Kp [b] H (upd H3 pf (.lst [])) := k3'.snoc npf
      refine ⟨_, rfl, b, c, 4, rfl, B3.keep0 (Kp.new npf), by decide, by decide, fun r4 H4 r40 r41 B4 k4' => ?_⟩
      have h4 : H4 pt = some (.lst ((tbs.map (·.1) ++ [w1]).map V.str)) := k4'.at_ _ _ (by rw [upd_ne (Ne.symm ft)]; exact h3) (by simpa using tb)
      have g4 : H4 pl = some (.lst xs) := k4'.at_ _ _ (by rw [upd_ne (Ne.symm fl)]; exact g3) (by simpa using lb)
      have f4 : H4 pf = some (.lst []) := k4'.at_ _ _ upd_same (by simpa using fb)
      have i4 : ImAll H4 2 xs (tbs.map dTab) := ImAll.kp k4' (ImAll.kp (Kp.new (ms := []) npf) i3)
      have k5 : Kp [b] H H4 := k4.trans k4'
      refine ⟨_, _, rfl, rfl, 1 + r4, rfl, by omega, by omega, ?_⟩
      refine for_range (lo := 0) (n := (1 + r4).toNat) (fun j σ H' => (∃ v6 : Option V, σ = [some (.ref b), some (.ref pt), some (.ref pl), some (.int (0 + (i : Int))), some (.str w1), some (.ref pf), v6]) ∧ Bag H' b c ∧ Kp [b] H H' ∧
          H' pt = some (.lst ((tbs.map (·.1) ++ [w1]).map V.str)) ∧ H' pl = some (.lst xs) ∧ ImAll H' 2 xs (tbs.map dTab) ∧ ∃ ws : List Str, ws.length = j ∧ H' pf = some (.lst (ws.map V.str)) ∧ (∀ w ∈ ws, IsNm w) ∧ ws.Nodup)
        ⟨⟨v6, rfl⟩, B4, k5, h4, g4, i4, [], rfl, f4, (fun w h => nomatch h), List.nodup_nil⟩ ?_ ?_
      · rintro j σ H5 hj ⟨⟨v6, rfl⟩, B5, k5', a1, a2, a3, ws, w1', w2, w3, w4⟩
        refine ⟨_, rfl, _, rfl, b, c, pf, ws, rfl, B5, w2, fb, fc, by omega, fun y H6 ny nmy B6 h6 k6 => ?_⟩
        have n1' : pt ∉ [b, pf] := by simp [tb, Ne.symm ft]
        have n2' : pl ∉ [b, pf] := by simp [lb, Ne.symm fl]
        refine ⟨⟨_, rfl⟩, B6, k5'.via k6 (by simp [hpf]), k6.at_ _ _ a1 n1', k6.at_ _ _ a2 n2', ImAll.kp k6 a3, ws ++ [y], by simp [w1'], h6, fun z hz => ?_, nd_snoc w4 nmy⟩
        rcases List.mem_append.mp hz with h | h
        · exact w3 z h
        · rw [List.mem_singleton.mp h]; exact ny
      · rintro σ H5 ⟨⟨v6, rfl⟩, B5, k5', a1, a2, a3, ws, w1', w2, w3, w4⟩
        refine ⟨_, rfl, .inl ⟨rfl, _, SqL.of a2⟩, _, rfl, _, rfl, pf, _, rfl, .inl ⟨SqL.of w2, fun u nu => ⟨by show 2 ≤ sizeLine; decide, fun q nq => ?_⟩⟩⟩
        have k6 : Kp [] H5 (upd (upd H5 u (.tup (ws.map V.str))) q (.tup [.str w1, .ref u])) := (Kp.new nu).snoc nq
        have a2' := k6.at_ _ _ a2 (fun z => nomatch z)
        refine ⟨pl, _, _, rfl, rfl, a2', by rw [t4]; exact small1000 (by omega), ?_⟩
        have k7 : Kp [pl] H5 (upd (upd (upd H5 u (.tup (ws.map V.str))) q (.tup [.str w1, .ref u])) pl (.lst (xs ++ [.ref q]))) := k6.zero.trans (Kp.updL a2' (by simp))
        have uq : u ≠ q := fun z => by rw [← z, upd_same] at nq; cases nq
        have ul : u ≠ pl := Ne.symm (ne_of_none a2 nu)
        have ql : q ≠ pl := fun z => by
          rw [z, upd_ne (Ne.symm ul), a2] at nq; cases nq
        refine ⟨⟨_, _, _, _, rfl⟩, B5.keep k7 (by simpa using Ne.symm lb) (by simpa using Ne.symm lc), k5'.via k7 (by simp [hpl]), tbs ++ [(w1, ws)], xs ++ [.ref q], by simp [t1], ?_, upd_same, by simp [t4], ?_, ?_, ?_⟩
        · have := k7.at_ _ _ a1 (by simpa using tl)
          rw [this]; simp
        · rw [List.map_append]
          refine DtAll.append (ImAll.kp k7 a3) (.cons ?_ .nil)
          have hu' : upd (upd (upd H5 u (.tup (ws.map V.str))) q (.tup [.str w1, .ref u])) pl (.lst (xs ++ [.ref q])) u = some (.tup (ws.map V.str)) := by rw [upd_ne ul, upd_ne uq, upd_same]
          have hq' : upd (upd (upd H5 u (.tup (ws.map V.str))) q (.tup [.str w1, .ref u])) pl (.lst (xs ++ [.ref q])) q = some (.tup [.str w1, .ref u]) := by rw [upd_ne ql, upd_same]
          exact .tup hq' ⟨by simp, _, hq'⟩ (.cons (.str _ (Nat.le_trans n1.2.1 (by decide))) (.cons (.tup hu' ⟨by rw [List.length_map]; omega, _, hu'⟩ (dtAll_strs fun w' hw' => Nat.le_trans (w3 w' hw').2.1 (by decide))) .nil))
        · intro t ht
          rcases List.mem_append.mp ht with h | h
          · exact t6 t h
          · rw [List.mem_singleton.mp h]
            exact ⟨n1, w3, w4, by show 1 ≤ ws.length; omega, by show ws.length ≤ 4; omega⟩
        · rw [List.map_append]
          exact nd_snoc t7 nm1
    · rintro σ H2 ⟨⟨v3, v4, v5, v6, rfl⟩, B2, k2, tbs, xs, t1, t2, t3, t4, t5, t6, t7⟩
      refine ⟨_, rfl, k pl xs tbs H2 B2 k2 hpl t3 t5 ⟨t6, t7, by omega, by omega⟩⟩
end
end Fm

namespace Fm
open PySem PySem.Spec PyProof.Rows L2
/-- tables as they are handed in: fields as lists (new ones, by N) or tuples -/
inductive Pts (N : Addr → Prop) (H : Hp) : List V → List PyData → List (Str × List Str) → Prop
  | nil : Pts N H [] [] []
  | tup {p f : Addr} {t : Str × List Str} {ps : List V} {ds : List PyData} {ts : List (Str × List Str)} : H p = some (.tup [.str t.1, .ref f]) → H f = some (.tup (t.2.map V.str)) → Pts N H ps ds ts → Pts N H (.ref p :: ps) (.tuple [.str t.1, .tuple (t.2.map .str)] :: ds) (t :: ts)
  | lst {p f : Addr} {t : Str × List Str} {ps : List V} {ds : List PyData} {ts : List (Str × List Str)} : H p = some (.tup [.str t.1, .ref f]) → H f = some (.lst (t.2.map V.str)) → N f → Pts N H ps ds ts → Pts N H (.ref p :: ps) (.tuple [.str t.1, .list (t.2.map .str)] :: ds) (t :: ts)
theorem Pts.kp {N : Addr → Prop} {H H' : Hp} {ms : List Addr} (k : Kp ms H H') (hm : ∀ x ∈ ms, ¬ N x) : ∀ {ps : List V} {ds : List PyData} {ts : List (Str × List Str)}, Pts N H ps ds ts → Pts N H' ps ds ts
  | _, _, _, .nil => .nil
  | _, _, _, .tup a b c => .tup (k.tp _ _ a) (k.tp _ _ b) (c.kp k hm)
  | _, _, _, .lst a b n c => .lst (k.tp _ _ a) (k.at_ _ _ b fun z => hm _ z n) n (c.kp k hm)
theorem Pts.snoc {N : Addr → Prop} {H : Hp} : ∀ {ps ps' : List V} {ds ds' : List PyData} {ts ts' : List (Str × List Str)}, Pts N H ps ds ts → Pts N H ps' ds' ts' → Pts N H (ps ++ ps') (ds ++ ds') (ts ++ ts')
  | _, _, _, _, _, _, .nil, h => h
  | _, _, _, _, _, _, .tup a b c, h => .tup a b (c.snoc h)
  | _, _, _, _, _, _, .lst a b n c, h => .lst a b n (c.snoc h)
theorem Pts.imp {N N' : Addr → Prop} {H : Hp} (i : ∀ a, N a → N' a) : ∀ {ps : List V} {ds : List PyData} {ts : List (Str × List Str)}, Pts N H ps ds ts → Pts N' H ps ds ts
  | _, _, _, .nil => .nil
  | _, _, _, .tup a b c => .tup a b (c.imp i)
  | _, _, _, .lst a b n c => .lst a b (i _ n) (c.imp i)
theorem Pts.lens {N : Addr → Prop} {H : Hp} : ∀ {ps : List V} {ds : List PyData} {ts : List (Str × List Str)}, Pts N H ps ds ts → ps.length = ts.length ∧ ds.length = ts.length
  | _, _, _, .nil => ⟨rfl, rfl⟩
  | _, _, _, .tup _ _ c => ⟨congrArg (· + 1) c.lens.1, congrArg (· + 1) c.lens.2⟩
  | _, _, _, .lst _ _ _ c => ⟨congrArg (· + 1) c.lens.1, congrArg (· + 1) c.lens.2⟩
theorem nm_len {w : Str} (h : IsNm w) : w.length ≤ 1000000 := Nat.le_trans h.2.1 (by decide)
theorem Pts.dt {N : Addr → Prop} {H : Hp} : ∀ {ps : List V} {ds : List PyData} {ts : List (Str × List Str)}, Pts N H ps ds ts → (∀ t ∈ ts, GoodT t) → DtAll (fun _ => True) true H 2 ps ds
  | _, _, _, .nil, _ => .nil
  | _, _, _, .tup (t := t) a b c, g => by
    have gt := g t List.mem_cons_self
    exact .cons (.tup a ⟨by simp, trivial⟩ (.cons (.str _ (nm_len gt.1)) (.cons (.tup b ⟨by rw [List.length_map]; have := gt.2.2.2.2; omega, trivial⟩ (dtAll_strs fun w h => nm_len (gt.2.1 w h))) .nil))) (c.dt fun x h => g x (List.mem_cons_of_mem _ h))
  | _, _, _, .lst (t := t) a b n c, g => by
    have gt := g t List.mem_cons_self
    exact .cons (.tup a ⟨by simp, trivial⟩ (.cons (.str _ (nm_len gt.1)) (.cons (.lst (.inl b) ⟨by rw [List.length_map]; have := gt.2.2.2.2; omega, trivial⟩ (dtAll_strs fun w h => nm_len (gt.2.1 w h))) .nil))) (c.dt fun x h => g x (List.mem_cons_of_mem _ h))
theorem Pts.tabs {N : Addr → Prop} {H : Hp} : ∀ {ps : List V} {ds : List PyData} {ts : List (Str × List Str)}, Pts N H ps ds ts → (∀ t ∈ ts, GoodT t) → TabsD ds ts
  | _, _, _, .nil, _ => .nil
  | _, _, _, .tup (t := t) a b c, g => .cons ⟨_, rfl, (g t List.mem_cons_self).1, .inr rfl, (g t List.mem_cons_self).2⟩ (c.tabs fun x h => g x (List.mem_cons_of_mem _ h))
  | _, _, _, .lst (t := t) a b n c, g => .cons ⟨_, rfl, (g t List.mem_cons_self).1, .inl rfl, (g t List.mem_cons_self).2⟩ (c.tabs fun x h => g x (List.mem_cons_of_mem _ h))
/-- the whole row -/
def HandAt (N : Addr → Prop) (H : Hp) (v : V) (d : PyData) (tbs : List (Str × List Str)) : Prop := ∃ r ps ds, v = .ref r ∧ N r ∧ ((H r = some (.lst ps) ∧ d = .list ds) ∨ (H r = some (.tup ps) ∧ d = .tuple ds)) ∧ Pts N H ps ds tbs
theorem HandAt.dt {N : Addr → Prop} {H : Hp} {v : V} {d : PyData} {tbs : List (Str × List Str)} (h : HandAt N H v d tbs) (g : GoodTs tbs) : Dt (fun _ => True) true H 3 v d := by
  obtain ⟨r, ps, ds, rfl, _, h, p⟩ := h
  have hl : ps.length ≤ 1000000 := by rw [p.lens.1]; have := g.2.2.2; omega
  rcases h with ⟨h, rfl⟩ | ⟨h, rfl⟩
  · exact .lst (.inl h) ⟨hl, trivial⟩ (p.dt g.1)
  · exact .tup h ⟨hl, trivial⟩ (p.dt g.1)
theorem HandAt.shp {N : Addr → Prop} {H : Hp} {v : V} {d : PyData} {tbs : List (Str × List Str)} (h : HandAt N H v d tbs) (g : GoodTs tbs) : ShpD d tbs := by
  obtain ⟨r, ps, ds, rfl, _, h, p⟩ := h
  refine ⟨ds, ?_, by rw [p.lens.2]; exact g.2.2.1, by rw [p.lens.2]; exact g.2.2.2, p.tabs g.1, g.2.1⟩
  rcases h with ⟨h, rfl⟩ | ⟨h, rfl⟩
  · exact .inl rfl
  · exact .inr rfl
def spHanded : Sp := fun vs H Q _ => ∃ (b c t : Addr) (xs : List V) (tbs : List (Str × List Str)), vs = [.ref b, .ref t] ∧ Bag H b c ∧ H t = some (.lst xs) ∧ t ≠ b ∧ ImAll H 2 xs (tbs.map dTab) ∧ tbs.length ≤ 100 ∧
  ∀ v d H', Bag H' b c → Kp [b] H H' → HandAt (fun a => H a = none) H' v d tbs → Q v H'
section
variable {P : Program} {w : World} {K : PySem.W.Frag} {mg : Str → Option Value} {base : Heap}
theorem ok_handed (B : Bi mg) (D : Dfn K mg "_law_handed" s__law_handed ["_law_bag_here", "_law_tables_here"]) (G_pick : Has P w K mg base CX0 "_law_pick" ["_law_bag_here", "_law_many"] 1 spPick) :
    Has P w K mg base CX0 "_law_handed" ["_law_bag_here", "_law_tables_here"] 2 spHanded := by
  refine D.has sc__law_handed (fun vs H Q E h => ?_) (fun f cdv A outer s H vs Q E hr h => ?_)
  · obtain ⟨b, c, t, xs, tbs, rfl, _⟩ := h; rfl
  · obtain ⟨b, c, t, xs, tbs, rfl, BG, ht, tb, ix, tl, k⟩ := h
    refine ⟨_, (pss_cons (ps_set (i := 2) sc__law_handed.nd rfl (by first | exact Or.inl rfl | exact Or.inr rfl) (pe_lst pa_nil))
  (pss_cons (ps_for PassesOwn.never rfl (pi_list (pv 1)) (pg_tup rfl (pgs_cons (pg_name (i := 3) sc__law_handed.nd rfl (by first | exact Or.inl rfl | exact Or.inr rfl)) (pgs_cons (pg_name (i := 4) sc__law_handed.nd rfl (by first | exact Or.inl rfl | exact Or.inr rfl)) pgs_nil)))
  (pss_one (ps_if (pt_cmpR op_eq (pe_has G_pick hr (pa_cons (pv 0) (pa_cons pe_int pa_nil))) pe_int (nomark _))
  (pss_one (ps_expr (pe_bm PySem.F.plainAttrs_list PySem.F.slot_list_append PySem.F.type_list_append mt_append (pv 2) (pa_cons (pe_tup (pa_cons (pv 3) (pa_cons (pe_callTy call_list_of (by rfl) B.list (by decide +kernel) (pa_cons (pv 4) pa_nil)) pa_nil))) pa_nil))))
  (pss_one (ps_expr (pe_bm PySem.F.plainAttrs_list PySem.F.slot_list_append PySem.F.type_list_append mt_append (pv 2) (pa_cons (pe_tup (pa_cons (pv 3) (pa_cons (pv 4) pa_nil))) pa_nil)))))))
  (pss_cons (ps_if (pt_cmpR op_eq (pe_has G_pick hr (pa_cons (pv 0) (pa_cons pe_int pa_nil))) pe_int (nomark _))
  (pss_one (ps_ret (pe_callTy call_tuple_of (by rfl) B.tuple (by decide +kernel) (pa_cons (pv 2) pa_nil))))
  pss_nil)
  (pss_one (ps_ret (pv 2)))))), ?_⟩
    refine ⟨by show 0 ≤ sizeLine; decide, fun ph nh => ?_⟩
    obtain ⟨hb, hc⟩ := BG.new nh
    have th : t ≠ ph := ne_of_none ht nh
    have el : xs.length = (tbs.map dTab).length := ix.len
    rw [List.length_map] at el
    refine ⟨_, rfl, t, rfl, ⟨_, SqL.of (by rw [upd_ne th]; exact ht)⟩, ?_⟩
    refine for_it (walk_list (xs := xs)) (fun i σ H' => (∃ v3 v4 : Option V, σ = [some (.ref b), some (.ref t), some (.ref ph), v3, v4]) ∧ Bag H' b c ∧ Kp [b] H H' ∧ ∃ ps ds, H' ph = some (.lst ps) ∧ ps.length = i ∧ Pts (fun a => H a = none ∧ a ≠ ph) H' ps ds (tbs.take i))
      ⟨⟨none, none, rfl⟩, BG.keep0 (Kp.new nh), Kp.new nh, [], [], upd_same, rfl, .nil⟩ (fun i σ H' _ ⟨_, _, k2, _⟩ => SqL.of (k2.at_ _ _ ht (by simpa using tb))) ?_ ?_
    · rintro i u σ H1 H2 hi ⟨⟨v3, v4, rfl⟩, B1, k1, ps, ds, h1, l1, p1⟩ ⟨rfl, hu⟩
      obtain ⟨du, hdu, dt⟩ := ix.getV hu
      rw [List.getElem?_map] at hdu
      cases et : tbs[i]? with
      | none => rw [et] at hdu; cases hdu
      | some tt =>
        rw [et] at hdu
        cases hdu
        obtain ⟨a', b', rfl, e1, e2⟩ := Im.tab (n := 0) (Im.kp k1 dt)
        have e3 : H2 b' = some (.tup (tt.2.map V.str)) := by
          cases e2 with
          | tup r _ a =>
            rw [r, DtAll.strs a]
        refine ⟨a', _, rfl, SqT.of e1, rfl, _, _, rfl, _, _, rfl, rfl, ?_⟩
        refine ⟨_, rfl, b, c, 2, rfl, B1, by decide, by decide, fun r H3 r0 r1 B3 k3 => ⟨rfl, _, rfl, ?_⟩⟩
        have h3 : H3 ph = some (.lst ps) := k3.at_ _ _ h1 (by simpa using hb)
        have kb : ∀ x ∈ [b], ¬ (H x = none ∧ x ≠ ph) := by
          intro x hx
          rw [List.mem_singleton.mp hx]
          intro z
          obtain ⟨o, ho⟩ := BG.someB
          rw [z.1] at ho; cases ho
        have p3 := p1.kp k3 kb
        have e33 : H3 b' = some (.tup (tt.2.map V.str)) := k3.tp _ _ e3
        have kH3 : Kp [b] H H3 := k1.trans k3
        have li : i < 100 := by omega
        have kp : ∀ x ∈ [ph], ¬ (H x = none ∧ x ≠ ph) := by
          intro x hx z
          exact z.2 (List.mem_singleton.mp hx)
        refine ite2 (fun _ => ?_) (fun _ => ?_)
        · refine ⟨_, rfl, .inl ⟨rfl, _, SqL.of h3⟩, _, rfl, _, rfl, b', _, rfl, .inr (SqT.of e33), fun l nl => ⟨by show 2 ≤ sizeLine; decide, fun q nq => ?_⟩⟩
          have k4 : Kp [] H3 (upd (upd H3 l (.lst (tt.2.map V.str))) q (.tup [.str tt.1, .ref l])) := (Kp.new nl).snoc nq
          have h4 := k4.at_ _ _ h3 (fun z => nomatch z)
          refine ⟨ph, _, _, rfl, rfl, h4, by rw [l1]; exact small1000 (by omega), ?_⟩
          have lq : l ≠ q := fun z => by rw [← z, upd_same] at nq; cases nq
          have lh : l ≠ ph := Ne.symm (ne_of_none h3 nl)
          have qh : q ≠ ph := fun z => by rw [z, upd_ne (Ne.symm lh), h3] at nq; cases nq
          have k5 : Kp [ph] H3 (upd (upd (upd H3 l (.lst (tt.2.map V.str))) q (.tup [.str tt.1, .ref l])) ph (.lst (ps ++ [.ref q]))) := k4.zero.trans (Kp.updL h4 (by simp))
          refine ⟨⟨_, _, rfl⟩, B3.keep k5 (by simpa using Ne.symm hb) (by simpa using Ne.symm hc), kH3.via k5 (by simp [nh]), _, ds ++ [.tuple [.str tt.1, .list (tt.2.map .str)]], upd_same, by simp [l1], ?_⟩
          rw [take_snoc et]
          refine (p3.kp k5 kp).snoc (.lst (f := l) ?_ ?_ ⟨kH3.freeB B3 nl, lh⟩ .nil)
          · rw [upd_ne qh, upd_same]
          · rw [upd_ne lh, upd_ne lq, upd_same]
        · refine ⟨_, rfl, .inl ⟨rfl, _, SqL.of h3⟩, _, rfl, _, rfl, by show 2 ≤ sizeLine; decide, fun q nq => ?_⟩
          have k4 : Kp [] H3 (upd H3 q (.tup [.str tt.1, .ref b'])) := Kp.new nq
          have h4 := k4.at_ _ _ h3 (fun z => nomatch z)
          refine ⟨ph, _, _, rfl, rfl, h4, by rw [l1]; exact small1000 (by omega), ?_⟩
          have qh : q ≠ ph := Ne.symm (ne_of_none h3 nq)
          have k5 : Kp [ph] H3 (upd (upd H3 q (.tup [.str tt.1, .ref b'])) ph (.lst (ps ++ [.ref q]))) := k4.zero.trans (Kp.updL h4 (by simp))
          refine ⟨⟨_, _, rfl⟩, B3.keep k5 (by simpa using Ne.symm hb) (by simpa using Ne.symm hc), kH3.via k5 (by simp [nh]), _, ds ++ [.tuple [.str tt.1, .tuple (tt.2.map .str)]], upd_same, by simp [l1], ?_⟩
          rw [take_snoc et]
          refine (p3.kp k5 kp).snoc (.tup (f := b') ?_ ?_ .nil)
          · rw [upd_ne qh, upd_same]
          · exact k5.tp _ _ e33
    · rintro σ H1 ⟨⟨v3, v4, rfl⟩, B1, k1, ps, ds, h1, l1, p1⟩
      rw [el, List.take_length] at p1
      refine ⟨_, rfl, b, c, 3, rfl, B1, by decide, by decide, fun r H3 r0 r1 B3 k3 => ⟨rfl, _, rfl, ?_⟩⟩
      have h3 : H3 ph = some (.lst ps) := k3.at_ _ _ h1 (by simpa using hb)
      have kb : ∀ x ∈ [b], ¬ (H x = none ∧ x ≠ ph) := by
        intro x hx
        rw [List.mem_singleton.mp hx]
        intro z
        obtain ⟨o, ho⟩ := BG.someB
        rw [z.1] at ho; cases ho
      have p3 := p1.kp k3 kb
      have kH3 : Kp [b] H H3 := k1.trans k3
      refine ite2 (fun _ => ?_) (fun _ => ?_)
      · refine ⟨_, rfl, ph, _, rfl, .inl ⟨SqL.of h3, fun l nl => ?_⟩⟩
        refine k _ (.tuple ds) _ (B3.keep0 (Kp.new nl)) (kH3.snoc nl) ⟨l, ps, ds, rfl, kH3.freeB B3 nl, .inr ⟨upd_same, rfl⟩, ?_⟩
        exact (p3.kp (Kp.new (ms := []) nl) (fun x hx => nomatch hx)).imp fun a h => h.1
      · exact ⟨_, rfl, k _ (.list ds) _ B3 kH3 ⟨ph, ps, ds, rfl, nh, .inl ⟨h3, rfl⟩, p3.imp fun a h => h.1⟩⟩
end
end Fm

namespace Fm
open PySem PySem.Spec PyProof.Rows L2
def rTupOf (K : PySem.W.Frag) : List V → Hp → VK → Prop := fun xs H Q => ∃ p ys, xs = [.ref p] ∧ ((SqL K H p ys ∧ ∀ l, H l = none → Q (.ref l) (upd H l (.tup ys))) ∨ (SqT K H p ys ∧ Q (.ref p) H))
theorem call_tupK {X : Cx} : CallR X (.type "tuple") (rTupOf X.K) := call_tuple_of
def spTells (C : Addr) : Sp := fun vs H Q _ => ∃ (p t : Addr) (xs : List V) (tbs : List (Str × List Str)), vs = [.ref p, .ref t] ∧ ShapeAt C H p tbs ∧ GoodTs tbs ∧ (H t = some (.lst xs) ∨ H t = some (.tup xs)) ∧ ImAll H 2 xs (tbs.map dTab) ∧ ∀ H', Kp [] H H' → Q (.bl true) H'
section
variable {P : Program} {w : World} {K : PySem.W.Frag} {mg : Str → Option Value} {base : Heap}
theorem ok_tells {C CE fF : Addr} {fdF : FuncData} (B : Bi mg) (D : Dfn K mg "_law_tells" s__law_tells ["_law_shape", "_law_tables_here"]) (T : ShCls K mg C) (GF : FnOk P w K mg base (L2.CX P w) 3 fF fdF ["self", "name"] (spFields C CE)) (bF : Binds K fdF ["self", "name"] []) (mF : Meth K C "fields_of" fF)
    (G_alike : Has P w K mg base CX0 "_law_alike" ["_law_one", "_law_other"] 4 (spAlike 3)) : Has P w K mg base CX0 "_law_tells" ["_law_shape", "_law_tables_here"] 5 (spTells C) := by
  refine D.has sc__law_tells (fun vs H Q E h => ?_) (fun f cdv A outer s H vs Q E hr h => ?_)
  · obtain ⟨p, t, xs, tbs, rfl, _⟩ := h; rfl
  · obtain ⟨p, t, xs, tbs, rfl, SA, g, ht, ix, k⟩ := h
    obtain ⟨dx, v, hp, iv⟩ := id SA
    have hr3 : Room 3 _ := hr.mono (by decide)
    have el : xs.length = tbs.length := by rw [ix.len, List.length_map]
    refine ⟨_, (C8.pss_cut (ps_set (i := 2) sc__law_tells.nd rfl (by first | exact Or.inl rfl | exact Or.inr rfl) (pe_callTy call_tuple_of (by rfl) B.tuple (by decide +kernel) (pa_cons (pe_lc (own := [("_law_table", 3)]) (by rfl) sc__law_tells.nd (pi_or (pi_list (pv 1)) (pi_tup (pv 1))) (blkOk_by (own := [("_law_table", 3)]) (N := N__law_tells) (sc := defScope s__law_tells) (by decide +kernel)) (fun _ _ _ _ _ => (pg_name (i := 3) sc__law_tells.nd rfl (by first | exact Or.inl rfl | exact Or.inr rfl))) (fun _ _ _ _ _ => pts_nil) (fun _ _ _ _ _ => (pe_tup (pa_cons (pe_ix (r := rIxT K) ix_tup (pv 3) pe_int (fun _ _ => rfl)) (pa_cons (pe_callTy (r := rTupOf K) call_tupK (by rfl) B.tuple (by decide +kernel) (pa_cons (pe_ix (r := rIxT K) ix_tup (pv 3) pe_int (fun _ _ => rfl)) pa_nil)) pa_nil))))) pa_nil)))
  (pss_cons (ps_if (pt_not (pt_val (pe_has G_alike hr (pa_cons (pe_fld (pv 0) rfl) (pa_cons (pv 2) pa_nil)))))
  (pss_one (ps_ret pe_bl))
  pss_nil)
  (pss_cons (ps_for PassesOwn.never rfl (pi_tup (pv 2)) (pg_name (i := 3) sc__law_tells.nd rfl (by first | exact Or.inl rfl | exact Or.inr rfl))
  (pss_one (ps_if (pt_not (pt_val (pe_has G_alike hr (pa_cons (pe_meth (pv 0) T.cl mF GF hr3 bF .nil passL (pa_cons (pe_ix (r := rIxT K) ix_tup (pv 3) pe_int (fun _ _ => rfl)) pa_nil)) (pa_cons (pe_ix (r := rIxT K) ix_tup (pv 3) pe_int (fun _ _ => rfl)) pa_nil)))))
  (pss_one (ps_ret pe_bl))
  pss_nil)))
  (pss_one (ps_ret pe_bl))))), ?_⟩
    refine ⟨fun σ H' => (∃ u ys, σ = [some (.ref p), some (.ref t), some (.ref u), none] ∧ H' u = some (.tup ys) ∧ ImAll H' 2 ys (tbs.map dTab)) ∧ Kp [] H H', ?_, ?_⟩
    · have turn : ∀ (i : Nat) (x : V) (H2 : Hp) (D : Addr), xs[i]? = some x → Kp [] H H2 → ∃ a b tt, x = .ref a ∧ tbs[i]? = some tt ∧ H2 a = some (.tup [.str tt.1, .ref b]) ∧ H2 b = some (.tup (tt.2.map V.str)) := fun i x H2 D hx k2 => by
        obtain ⟨du, hdu, dt⟩ := ix.getV hx
        rw [List.getElem?_map] at hdu
        cases et : tbs[i]? with
        | none => rw [et] at hdu; cases hdu
        | some tt =>
          rw [et] at hdu
          cases hdu
          obtain ⟨a', b', rfl, e1, e2⟩ := Im.tab (n := 0) (Im.kp k2 dt)
          refine ⟨a', b', tt, rfl, rfl, e1, ?_⟩
          cases e2 with
          | tup r _ a => rw [r, DtAll.strs a]
      have fin : ∀ (D : Addr) (H2 : Hp), (∃ ys, H2 D = some (.lst ys) ∧ ImAll H2 2 ys ((tbs.take xs.length).map dTab)) ∧ Kp [] H H2 → ∀ l, H2 l = none → (∃ u ys, ([some (.ref p), some (.ref t), some (.ref l), none] : L2.St) = [some (.ref p), some (.ref t), some (.ref u), none] ∧ upd H2 l (.tup (match H2 D with | some (.lst ys) => ys | _ => [])) u = some (.tup ys) ∧ ImAll (upd H2 l (.tup (match H2 D with | some (.lst ys) => ys | _ => []))) 2 ys (tbs.map dTab)) ∧ Kp [] H (upd H2 l (.tup (match H2 D with | some (.lst ys) => ys | _ => []))) := fun D H2 ⟨⟨ys, h2, i2⟩, k2⟩ l nl => by
        rw [el, List.take_length] at i2
        rw [h2]
        exact ⟨⟨l, ys, rfl, upd_same, ImAll.kp (Kp.new (ms := []) nl) i2⟩, k2.snoc nl⟩
      rcases ht with ht | ht
      · refine .inl ⟨_, rfl, t, rfl, ⟨_, SqL.of ht⟩, fun D hD => ?_⟩
        refine lc_it (walk_list (xs := xs)) (fun i H' => (∃ ys, H' D = some (.lst ys) ∧ ys.length = i ∧ ImAll H' 2 ys ((tbs.take i).map dTab)) ∧ Kp [] H H') ⟨⟨[], upd_same, rfl, .nil⟩, Kp.new hD⟩ (fun i H' _ ⟨_, k2⟩ => SqL.of (k2.at_ _ _ ht (fun z => nomatch z))) ?_ ?_
        · rintro i x H2 H3 hi ⟨⟨ys, h2, l2, i2⟩, k2⟩ ⟨rfl, hx⟩
          obtain ⟨a, b, tt, rfl, et, e1, e2⟩ := turn i x H3 D hx k2
          refine ⟨rfl, _, rfl, a, _, _, _, rfl, rfl, SqT.of e1, rfl, _, rfl, a, _, _, _, rfl, rfl, SqT.of e1, rfl, b, _, rfl, .inr ⟨SqT.of e2, by show 2 ≤ sizeLine; decide, fun q nq => ?_⟩⟩
          have qD : D ≠ q := ne_of_none h2 nq
          have k3 : Kp [D] H3 (upd (upd H3 q (.tup [.str tt.1, .ref b])) D (.lst (ys ++ [.ref q]))) := (Kp.new nq).trans (Kp.updL (by rw [upd_ne qD]; exact h2) (by simp))
          refine ⟨ys, by rw [upd_ne qD]; exact h2, by rw [l2]; exact small1000 (by have := g.2.2.2; omega), ⟨ys ++ [.ref q], upd_same, by simp [l2], ?_⟩, (k2.snoc nq).late hD⟩
          rw [take_snoc et, List.map_append]
          have hq' : upd (upd H3 q (.tup [.str tt.1, .ref b])) D (.lst (ys ++ [.ref q])) q = some (.tup [.str tt.1, .ref b]) := by rw [upd_ne (Ne.symm qD), upd_same]
          have hb' := k3.tp _ _ e2
          have gt := g.1 tt (List.mem_of_getElem? et)
          exact DtAll.append (ImAll.kp k3 i2) (.cons (.tup hq' ⟨by simp, _, hq'⟩ (.cons (.str _ (nm_len gt.1)) (.cons (.tup hb' ⟨by rw [List.length_map]; have := gt.2.2.2.2; omega, _, hb'⟩ (dtAll_strs fun w h => nm_len (gt.2.1 w h))) .nil))) .nil)
        · rintro H2 ⟨⟨ys, h2, l2, i2⟩, k2⟩
          refine ⟨D, ys, rfl, .inl ⟨SqL.of h2, fun l nl => ?_⟩⟩
          have := fin D H2 ⟨⟨ys, h2, i2⟩, k2⟩ l nl
          rw [h2] at this
          exact this
      · refine .inr ⟨_, rfl, t, rfl, ⟨_, SqT.of ht⟩, fun D hD => ?_⟩
        refine lc_it (walk_tup (xs := xs)) (fun i H' => (∃ ys, H' D = some (.lst ys) ∧ ys.length = i ∧ ImAll H' 2 ys ((tbs.take i).map dTab)) ∧ Kp [] H H') ⟨⟨[], upd_same, rfl, .nil⟩, Kp.new hD⟩ (fun i H' _ ⟨_, k2⟩ => SqT.of (k2.tp _ _ ht)) ?_ ?_
        · rintro i x H2 H3 hi ⟨⟨ys, h2, l2, i2⟩, k2⟩ ⟨rfl, hx⟩
          obtain ⟨a, b, tt, rfl, et, e1, e2⟩ := turn i x H3 D hx k2
          refine ⟨rfl, _, rfl, a, _, _, _, rfl, rfl, SqT.of e1, rfl, _, rfl, a, _, _, _, rfl, rfl, SqT.of e1, rfl, b, _, rfl, .inr ⟨SqT.of e2, by show 2 ≤ sizeLine; decide, fun q nq => ?_⟩⟩
          have qD : D ≠ q := ne_of_none h2 nq
          have k3 : Kp [D] H3 (upd (upd H3 q (.tup [.str tt.1, .ref b])) D (.lst (ys ++ [.ref q]))) := (Kp.new nq).trans (Kp.updL (by rw [upd_ne qD]; exact h2) (by simp))
          refine ⟨ys, by rw [upd_ne qD]; exact h2, by rw [l2]; exact small1000 (by have := g.2.2.2; omega), ⟨ys ++ [.ref q], upd_same, by simp [l2], ?_⟩, (k2.snoc nq).late hD⟩
          rw [take_snoc et, List.map_append]
          have hq' : upd (upd H3 q (.tup [.str tt.1, .ref b])) D (.lst (ys ++ [.ref q])) q = some (.tup [.str tt.1, .ref b]) := by rw [upd_ne (Ne.symm qD), upd_same]
          have hb' := k3.tp _ _ e2
          have gt := g.1 tt (List.mem_of_getElem? et)
          exact DtAll.append (ImAll.kp k3 i2) (.cons (.tup hq' ⟨by simp, _, hq'⟩ (.cons (.str _ (nm_len gt.1)) (.cons (.tup hb' ⟨by rw [List.length_map]; have := gt.2.2.2.2; omega, _, hb'⟩ (dtAll_strs fun w h => nm_len (gt.2.1 w h))) .nil))) .nil)
        · rintro H2 ⟨⟨ys, h2, l2, i2⟩, k2⟩
          refine ⟨D, ys, rfl, .inl ⟨SqL.of h2, fun l nl => ?_⟩⟩
          have := fin D H2 ⟨⟨ys, h2, i2⟩, k2⟩ l nl
          rw [h2] at this
          exact this
    · rintro σ' H1 ⟨⟨u, ys, rfl, hu, iy⟩, k1⟩
      have hp1 := k1.at_ _ _ hp (fun z => nomatch z)
      have iv1 := Im.kp k1 iv
      have SA1 := SA.kp k1 (fun z => nomatch z)
      have ley : ys.length = tbs.length := by rw [iy.len, List.length_map]
      have due : Dt (TupH H1) true H1 3 (.ref u) (dTabs tbs) := .tup hu ⟨by have := g.2.2.2; omega, _, hu⟩ iy
      refine ⟨_, rfl, p, C, dx, _, _, rfl, hp1, T.cl, T.nT, rfl, _, rfl, _, _, v, _, dTabs tbs, rfl, iv1, due.weak, fun H2 k2 => ⟨_, rfl, iteF ?_⟩⟩
      have hu2 := k2.tp _ _ hu
      refine ⟨_, rfl, u, rfl, ⟨_, SqT.of hu2⟩, ?_⟩
      refine for_it (walk_tup (xs := ys)) (fun i σ H' => (∃ v3 : Option V, σ = [some (.ref p), some (.ref t), some (.ref u), v3]) ∧ Kp [] H1 H') ⟨⟨none, rfl⟩, k2⟩ (fun i σ H' _ ⟨_, k3⟩ => SqT.of (k3.tp _ _ hu)) ?_ ?_
      · rintro i x σ H3 H4 hi ⟨⟨v3, rfl⟩, k3⟩ ⟨rfl, hx⟩
        obtain ⟨du, hdu, dt⟩ := iy.getV hx
        rw [List.getElem?_map] at hdu
        cases et : tbs[i]? with
        | none => rw [et] at hdu; cases hdu
        | some tt =>
          rw [et] at hdu
          cases hdu
          obtain ⟨a, b, rfl, e1, e2⟩ := Im.tab (n := 0) (Im.kp k3 dt)
          have gt := g.1 tt (List.mem_of_getElem? et)
          obtain ⟨dx', v', hp4, iv4⟩ := SA1.kp k3 (fun z => nomatch z)
          refine ⟨_, rfl, p, dx', _, rfl, hp4, rfl, _, rfl, a, _, _, _, rfl, rfl, SqT.of e1, rfl, ?_⟩
          refine ⟨p, fun _ => True, true, 0, .str tt.1, .str tt.1, tbs, rfl, SA1.kp k3 (fun z => nomatch z), g.2.1, .str _ (nm_len gt.1), fun t' ht' e' a' ia => ?_, fun h => absurd rfl (h tt (List.mem_of_getElem? et))⟩
          have ett : t' = tt := by
            injection e' with e'
            obtain ⟨j, hj⟩ := List.getElem?_of_mem ht'
            have hi' : (tbs.map (·.1))[i]? = some tt.1 := by rw [List.getElem?_map, et]; rfl
            have hj' : (tbs.map (·.1))[j]? = some tt.1 := by rw [List.getElem?_map, hj, e']; rfl
            obtain ⟨x1, x2⟩ := List.getElem?_eq_some_iff.mp hi'
            obtain ⟨y1, y2⟩ := List.getElem?_eq_some_iff.mp hj'
            have := nodup_at g.2.1 x1 y1 (x2.trans y2.symm)
            rw [this, hj] at et
            exact Option.some.inj et
          subst ett
          refine ⟨_, rfl, a, _, _, _, rfl, rfl, SqT.of e1, rfl, _, _, .ref a', .ref b, .tuple (t'.2.map .str), rfl, ia.mono (by decide), (e2.mono (by decide)).weak, fun H5 k5 => ⟨_, rfl, iteF ?_⟩⟩
          exact ⟨⟨_, rfl⟩, k3.trans k5⟩
      · rintro σ H3 ⟨⟨v3, rfl⟩, k3⟩
        exact k _ (k1.trans k3)
end
end Fm

namespace Fm
open PySem PySem.Spec PyProof.Rows L2
theorem nodup_set {α : Type} : ∀ {l : List α} {i : Nat} {x : α}, l.Nodup → x ∉ l → (l.set i x).Nodup
  | [], _, _, _, _ => by simp
  | a :: l, 0, x, nd, hx => by
    rw [List.set_cons_zero]
    exact List.nodup_cons.mpr ⟨fun h => hx (List.mem_cons_of_mem _ h), (List.nodup_cons.mp nd).2⟩
  | a :: l, i + 1, x, nd, hx => by
    rw [List.set_cons_succ]
    refine List.nodup_cons.mpr ⟨fun h => ?_, nodup_set (List.nodup_cons.mp nd).2 fun h => hx (List.mem_cons_of_mem _ h)⟩
    rcases List.mem_or_eq_of_mem_set h with h | h
    · exact (List.nodup_cons.mp nd).1 h
    · exact hx (by rw [← h]; exact List.mem_cons_self)
theorem DtAll.set {S : Addr → Prop} {q : Bool} {H : Hp} : ∀ {n : Nat} {v : List V} {d : List PyData}, DtAll S q H n v d → ∀ (i : Nat) {x : V} {e : PyData}, Dt S q H n x e → DtAll S q H n (v.set i x) (d.set i e)
  | _, _, _, .nil, i, _, _, _ => by simp; exact .nil
  | _, _, _, .cons a b, 0, _, _, h => .cons h b
  | _, _, _, .cons a b, i + 1, _, _, h => .cons a (DtAll.set b i h)
theorem DtAll.drop {S : Addr → Prop} {q : Bool} {H : Hp} : ∀ {n : Nat} {v : List V} {d : List PyData}, DtAll S q H n v d → ∀ i : Nat, DtAll S q H n (v.drop i) (d.drop i)
  | _, _, _, .nil, i => by rw [List.drop_nil, List.drop_nil]; exact .nil
  | _, _, _, .cons a b, 0 => .cons a b
  | _, _, _, .cons a b, i + 1 => DtAll.drop b i
theorem cut_drop {xs : List V} {i : Nat} (h : i ≤ xs.length) : cutV xs (some ((i : Nat) : Int)) none = xs.drop i := by
  have e1 : HT.sIx xs.length 0 (some ((i : Nat) : Int)) = min i xs.length := HT.sIx_nat _ _ i
  unfold cutV
  rw [e1, HT.sIx_none, Nat.min_eq_left h]
  exact List.take_of_length_le (by rw [List.length_drop]; exact Nat.le_refl _)
theorem cut_but {xs : List V} (h : 1 ≤ xs.length) : cutV xs none (some (-1)) = xs.take (xs.length - 1) := by
  have e1 : HT.sIx xs.length xs.length (some (-1)) = xs.length - 1 := by
    show (if (-1 : Int) < 0 then (-1 + (xs.length : Int)).toNat else min (-1 : Int).toNat xs.length) = _
    rw [if_pos (by decide)]
    omega
  unfold cutV
  rw [e1, HT.sIx_none, List.drop_zero, Nat.sub_zero]
theorem GoodTs.set {tbs : List (Str × List Str)} {i : Nat} {t t' : Str × List Str} (g : GoodTs tbs) (ht : tbs[i]? = some t) (g' : GoodT t') (hn : t'.1 = t.1 ∨ t'.1 ∉ tbs.map (·.1)) (ne : t' ≠ t) : GoodTs (tbs.set i t') ∧ tbs.set i t' ≠ tbs := by
  obtain ⟨hi, e⟩ := List.getElem?_eq_some_iff.mp ht
  refine ⟨⟨fun u hu => ?_, ?_, by rw [List.length_set]; exact g.2.2.1, by rw [List.length_set]; exact g.2.2.2⟩, fun z => ?_⟩
  · rcases List.mem_or_eq_of_mem_set hu with h | h
    · exact g.1 u h
    · rw [h]; exact g'
  · rw [List.map_set]
    rcases hn with h | h
    · have e2 : (tbs.map (·.1)).set i t'.1 = tbs.map (·.1) := by
        rw [h]
        have e3 : t.1 = (tbs.map (·.1))[i]'(by rw [List.length_map]; exact hi) := by rw [List.getElem_map, e]
        rw [e3, List.set_getElem_self]
      show ((tbs.map (·.1)).set i t'.1).Nodup
      rw [e2]; exact g.2.1
    · exact nodup_set g.2.1 h
  · have := congrArg (fun l => l[i]?) z
    simp only [List.getElem?_set_self hi, ht] at this
    exact ne (Option.some.inj this)
theorem nodup_rot {α : Type} {l : List α} (h : l.Nodup) : (l.drop 1 ++ l.take 1).Nodup := by
  have p : (l.drop 1 ++ l.take 1).Perm (l.take 1 ++ l.drop 1) := List.perm_append_comm
  rw [List.take_append_drop] at p
  exact p.nodup_iff.mpr h
theorem rot_ne {α : Type} {l : List α} (h : l.Nodup) (hl : 1 < l.length) : l.drop 1 ++ l.take 1 ≠ l := by
  match l, hl with
  | a :: b :: r, _ =>
    intro z
    simp at z
    exact (List.nodup_cons.mp h).1 (by rw [← z.1]; exact List.mem_cons_self)
theorem GoodTs.rot {tbs : List (Str × List Str)} (g : GoodTs tbs) (hl : 1 < tbs.length) : GoodTs (tbs.drop 1 ++ tbs.take 1) ∧ tbs.drop 1 ++ tbs.take 1 ≠ tbs := by
  have e : (tbs.drop 1 ++ tbs.take 1).length = tbs.length := by
    rw [List.length_append, List.length_drop, List.length_take]; omega
  refine ⟨⟨fun t h => ?_, ?_, by rw [e]; exact g.2.2.1, by rw [e]; exact g.2.2.2⟩, fun z => ?_⟩
  · rcases List.mem_append.mp h with h | h
    · exact g.1 t (List.mem_of_mem_drop h)
    · exact g.1 t (List.mem_of_mem_take h)
  · rw [List.map_append, List.map_drop, List.map_take]
    exact nodup_rot g.2.1
  · have := congrArg (List.map (·.1)) z
    rw [List.map_append, List.map_drop, List.map_take] at this
    exact rot_ne g.2.1 (by rw [List.length_map]; exact hl) this
theorem GoodTs.erase {tbs : List (Str × List Str)} {i : Nat} (g : GoodTs tbs) (hi : i < tbs.length) (hl : 1 < tbs.length) : GoodTs (tbs.take i ++ tbs.drop (i + 1)) ∧ tbs.take i ++ tbs.drop (i + 1) ≠ tbs := by
  have e : (tbs.take i ++ tbs.drop (i + 1)).length = tbs.length - 1 := by
    rw [List.length_append, List.length_drop, List.length_take]; omega
  have e5 := g.2.2.2
  refine ⟨⟨fun t h => ?_, ?_, by omega, by omega⟩, fun z => ?_⟩
  · rcases List.mem_append.mp h with h | h
    · exact g.1 t (List.mem_of_mem_take h)
    · exact g.1 t (List.mem_of_mem_drop h)
  · rw [← List.eraseIdx_eq_take_drop_succ]
    exact g.2.1.sublist ((List.eraseIdx_sublist _ _).map _)
  · rw [z] at e; omega
def spChanged : Sp := fun vs H Q _ => ∃ (b c t : Addr) (xs : List V) (tbs : List (Str × List Str)), vs = [.ref b, .ref t] ∧ Bag H b c ∧ H t = some (.lst xs) ∧ t ≠ b ∧ ImAll H 2 xs (tbs.map dTab) ∧ GoodTs tbs ∧
  ∀ t' xs' us H', Bag H' b c → Kp [b] H H' → H' t' = some (.lst xs') → H t' = none → ImAll H' 2 xs' (us.map dTab) → GoodTs us → us ≠ tbs → Q (.ref t') H'
section
variable {P : Program} {w : World} {K : PySem.W.Frag} {mg : Str → Option Value} {base : Heap}
theorem ok_changed (B : Bi mg) (D : Dfn K mg "_law_changed" s__law_changed ["_law_bag_here", "_law_tables_here"]) (G_pick : Has P w K mg base CX0 "_law_pick" ["_law_bag_here", "_law_many"] 1 spPick) (G_name : Has P w K mg base CX0 "_law_name" ["_law_bag_here", "_law_taken"] 2 spName) :
    Has P w K mg base CX0 "_law_changed" ["_law_bag_here", "_law_tables_here"] 3 spChanged := by
  refine D.has sc__law_changed (fun vs H Q E h => ?_) (fun f cdv A outer s H vs Q E hr h => ?_)
  · obtain ⟨b, c, t, xs, tbs, rfl, _⟩ := h; rfl
  · obtain ⟨b, c, t, xs, tbs, rfl, BG, ht, tb, ix, g, k⟩ := h
    have hr1 : Room 1 _ := hr.mono (by decide)
    have el : xs.length = tbs.length := by rw [ix.len, List.length_map]
    refine ⟨_, (pss_cons (ps_set (i := 2) sc__law_changed.nd rfl (by first | exact Or.inl rfl | exact Or.inr rfl) (pe_has G_pick hr1 (pa_cons (pv 0) (pa_cons (pe_callB call_len (by rfl) B.len PySem.boot_len (pa_cons (pv 1) pa_nil)) pa_nil))))
  (pss_cons (ps_asg (pe_ix ix_list (pv 1) (pv 2) (fun _ _ => rfl)) (pg_tup rfl (pgs_cons (pg_name (i := 3) sc__law_changed.nd rfl (by first | exact Or.inl rfl | exact Or.inr rfl)) (pgs_cons (pg_name (i := 4) sc__law_changed.nd rfl (by first | exact Or.inl rfl | exact Or.inr rfl)) pgs_nil))))
  (pss_cons (ps_set (i := 5) sc__law_changed.nd rfl (by first | exact Or.inl rfl | exact Or.inr rfl) (pe_has G_pick hr1 (pa_cons (pv 0) (pa_cons pe_int pa_nil))))
  (C8.pss_cut (ps_if (PW.pt (pw_and (pt_cmpR op_eq (pv 5) pe_int (nomark _)) (pw_and1 (pt_cmpR op_gt (pe_callB call_len (by rfl) B.len PySem.boot_len (pa_cons (pv 1) pa_nil)) pe_int (nomark _)))))
  (pss_one (ps_ret (pe_op op_cat (pe_slice sl_list (pv 1) (po_some pe_int) po_none) (pe_slice sl_list (pv 1) po_none (po_some pe_int)))))
  pss_nil)
  (C8.pss_cut (ps_if (PW.pt (pw_and (pt_cmpR op_eq (pv 5) pe_int (nomark _)) (pw_and1 (pt_cmpR op_gt (pe_callB call_len (by rfl) B.len PySem.boot_len (pa_cons (pv 4) pa_nil)) pe_int (nomark _)))))
  (pss_one (ps_ret (pe_op op_cat (pe_op op_cat (pe_slice sl_list (pv 1) po_none (po_some (pv 2))) (pe_lst (pa_cons (pe_tup (pa_cons (pv 3) (pa_cons (pe_op op_catT (pe_slice sl_tup (pv 4) (po_some pe_int) po_none) (pe_slice sl_tup (pv 4) po_none (po_some pe_int))) pa_nil))) pa_nil))) (pe_slice sl_list (pv 1) (po_some (pe_op op_add (pv 2) pe_int)) po_none))))
  pss_nil)
  (C8.pss_cut (ps_if (PW.pt (pw_and (pt_cmpR op_eq (pv 5) pe_int (nomark _)) (pw_and1 (pt_cmpR op_gt (pe_callB call_len (by rfl) B.len PySem.boot_len (pa_cons (pv 4) pa_nil)) pe_int (nomark _)))))
  (pss_one (ps_ret (pe_op op_cat (pe_op op_cat (pe_slice sl_list (pv 1) po_none (po_some (pv 2))) (pe_lst (pa_cons (pe_tup (pa_cons (pv 3) (pa_cons (pe_slice sl_tup (pv 4) po_none (po_some (pe_un un_neg pe_int))) pa_nil))) pa_nil))) (pe_slice sl_list (pv 1) (po_some (pe_op op_add (pv 2) pe_int)) po_none))))
  pss_nil)
  (C8.pss_cut (ps_if (PW.pt (pw_and (pt_cmpR op_eq (pv 5) pe_int (nomark _)) (pw_and1 (pt_cmpR op_gt (pe_callB call_len (by rfl) B.len PySem.boot_len (pa_cons (pv 1) pa_nil)) pe_int (nomark _)))))
  (pss_one (ps_ret (pe_op op_cat (pe_slice sl_list (pv 1) po_none (po_some (pv 2))) (pe_slice sl_list (pv 1) (po_some (pe_op op_add (pv 2) pe_int)) po_none))))
  pss_nil)
  (pss_cons (ps_setLc (i := 6) (own := [("_law_table", 7)]) (by rfl) sc__law_changed.nd rfl rfl (sw_true rfl rfl rfl (by decide +kernel)) (pi_list (pv 1)) (blkOk_by (own := [("_law_table", 7)]) (N := N__law_changed) (sc := defScope s__law_changed) (by decide +kernel)) (fun _ _ _ _ _ => (pg_name (i := 7) sc__law_changed.nd rfl (by first | exact Or.inl rfl | exact Or.inr rfl))) (fun _ _ _ _ _ => pts_nil) (fun _ _ _ _ _ => (pe_ix (r := rIxT K) ix_tup (pv 7) pe_int (fun _ _ => rfl))))
  (pss_one (ps_ret (pe_op op_cat (pe_op op_cat (pe_slice sl_list (pv 1) po_none (po_some (pv 2))) (pe_lst (pa_cons (pe_tup (pa_cons (pe_has G_name hr (pa_cons (pv 0) (pa_cons (pv 6) pa_nil))) (pa_cons (pv 4) pa_nil))) pa_nil))) (pe_slice sl_list (pv 1) (po_some (pe_op op_add (pv 2) pe_int)) po_none)))))))))))), ?_⟩
    have l5 := g.2.2.2
    have l1 := g.2.2.1
    refine ⟨_, rfl, _, rfl, _, _, rfl, .inl ⟨_, SqL.of ht, rfl⟩, b, c, _, rfl, BG, by omega, by omega, fun r H1 r0 r1 B1 k1 => ?_⟩
    obtain ⟨at', rfl⟩ : ∃ n : Nat, r = (n : Int) := ⟨r.toNat, by omega⟩
    have hat : at' < xs.length := by omega
    have ht1 : H1 t = some (.lst xs) := k1.at_ _ _ ht (by simpa using tb)
    obtain ⟨u, hu⟩ : ∃ u, xs[at']? = some u := ⟨xs[at'], List.getElem?_eq_getElem hat⟩
    obtain ⟨du, hdu, dt⟩ := ix.getV hu
    rw [List.getElem?_map] at hdu
    cases et : tbs[at']? with
    | none => rw [et] at hdu; cases hdu
    | some tt =>
    rw [et] at hdu
    cases hdu
    obtain ⟨a', f', rfl, e1, e2⟩ := Im.tab (n := 0) (Im.kp k1 dt)
    have gt := g.1 tt (List.mem_of_getElem? et)
    have ef : H1 f' = some (.tup (tt.2.map V.str)) := by
      cases e2 with
      | tup r _ a => rw [r, DtAll.strs a]
    refine ⟨_, rfl, _, rfl, t, _, _, _, rfl, rfl, SqL.of ht1, atI_of (by omega) (by simpa using hu), a', _, rfl, SqT.of e1, rfl, _, _, rfl, _, _, rfl, rfl, ?_⟩
    refine ⟨_, rfl, b, c, 4, rfl, B1, by decide, by decide, fun ch H2 _ _ B2 k2 => ?_⟩
    have ht2 : H2 t = some (.lst xs) := k2.at_ _ _ ht1 (by simpa using tb)
    have ef2 : H2 f' = some (.tup (tt.2.map V.str)) := k2.tp _ _ ef
    have kH2 : Kp [b] H H2 := k1.trans k2
    have ix2 : ImAll H2 2 xs (tbs.map dTab) := ImAll.kp kH2 ix
    have lf : (tt.2.map V.str).length = tt.2.length := by rw [List.length_map]
    -- the list with one table changed
    have fin : ∀ (t' : Str × List Str) (H5 : Hp) (q p : Addr) (zs : List V), Bag H5 b c → Kp [b] H H5 → Im H5 2 (.ref q) (dTab t') → GoodT t' → (t'.1 = tt.1 ∨ t'.1 ∉ tbs.map (·.1)) → t' ≠ tt → H5 p = some (.lst (xs.take at' ++ [.ref q] ++ xs.drop (at' + 1))) → H p = none → Q (.ref p) H5 := by
      intro t' H5 q p zs B5 k5 iq g' hn ne hp np
      obtain ⟨g1, g2⟩ := g.set et g' hn ne
      have e3 : xs.take at' ++ [.ref q] ++ xs.drop (at' + 1) = xs.set at' (.ref q) := by
        rw [List.set_eq_take_append_cons_drop, if_pos hat]; simp
      rw [e3] at hp
      refine k p _ (tbs.set at' t') H5 B5 k5 hp np ?_ g1 g2
      rw [List.map_set]
      exact (ImAll.kp k5 ix).set at' iq
    refine ⟨fun σ H' => σ = [some (.ref b), some (.ref t), some (.int (at' : Int)), some (.str tt.1), some (.ref f'), some (.int ch), none, none] ∧ H' = H2, ?_, ?_⟩
    · refine ⟨_, rfl, rfl, _, rfl, ?_⟩
      refine ite2 (fun _ => ?_) (fun _ => ⟨rfl, rfl⟩)
      refine ⟨_, rfl, _, _, rfl, .inl ⟨_, SqL.of ht2, rfl⟩, _, _, rfl, rfl, _, rfl, ?_⟩
      refine ite2 (fun hl => ?_) (fun _ => ⟨rfl, rfl⟩)
      have hl' : 1 < tbs.length := by
        have := of_decide_eq_true hl
        omega
      refine ⟨_, rfl, 1, rfl, t, xs, rfl, SqL.of ht2, fun p1 n1 => ?_⟩
      refine ⟨_, rfl, 1, rfl, t, xs, rfl, SqL.of (by rw [upd_ne (ne_of_none ht2 n1)]; exact ht2), fun p2 n2 => ?_⟩
      have p12 : p1 ≠ p2 := fun z => by rw [← z, upd_same] at n2; cases n2
      refine ⟨p1, p2, _, _, rfl, rfl, by rw [upd_ne p12, upd_same], upd_same, ?_, fun p3 n3 => ?_⟩
      · have c1 := cutV_length xs (some 1) none
        have c2 := cutV_length xs none (some 1)
        exact Nat.le_trans (show _ ≤ 10 by omega) (by decide)
      · obtain ⟨g1, g2⟩ := g.rot hl'
        have e3 : cutV xs (some 1) none = xs.drop 1 := cut_drop (i := 1) (by omega)
        have e4 : cutV xs none (some 1) = xs.take 1 := cut_take (i := 1) (by omega)
        have k5 : Kp [] H2 (upd (upd (upd H2 p1 (.lst (cutV xs (some 1) none))) p2 (.lst (cutV xs none (some 1)))) p3 (.lst (cutV xs (some 1) none ++ cutV xs none (some 1)))) := ((Kp.new n1).snoc n2).snoc n3
        have np : H p3 = none := by
          have B5 : Bag (upd (upd H2 p1 (.lst (cutV xs (some 1) none))) p2 (.lst (cutV xs none (some 1)))) b c := B2.keep0 ((Kp.new n1).snoc n2)
          exact (kH2.trans ((Kp.new n1).snoc n2)).freeB B5 n3
        refine k p3 _ (tbs.drop 1 ++ tbs.take 1) _ (B2.keep0 k5) (kH2.trans k5.zero) upd_same np ?_ g1 g2
        rw [List.map_append, List.map_drop, List.map_take, e3, e4]
        exact ImAll.kp (ms := []) (by rw [e3, e4] at k5; exact k5) ((ix2.drop 1).append (ix2.take 1))
    · rintro σ' H3 ⟨rfl, rfl⟩
      -- fields turned
      refine ⟨fun σ H' => σ = [some (.ref b), some (.ref t), some (.int (at' : Int)), some (.str tt.1), some (.ref f'), some (.int ch), none, none] ∧ H' = H3, ?_, ?_⟩
      · refine ⟨_, rfl, rfl, _, rfl, ?_⟩
        refine ite2 (fun _ => ?_) (fun _ => ⟨rfl, rfl⟩)
        refine ⟨_, rfl, _, _, rfl, .inr ⟨_, SqT.of ef2, rfl⟩, _, _, rfl, rfl, _, rfl, ?_⟩
        refine ite2 (fun hl => ?_) (fun _ => ⟨rfl, rfl⟩)
        have hl' : 1 < tt.2.length := by
          have := of_decide_eq_true hl
          omega
        have g4 := gt.2.2.2.2
        refine ⟨_, rfl, _, rfl, (at' : Int), rfl, t, xs, rfl, SqL.of ht2, fun p1 n1 => ?_⟩
        have j1 : Kp [] H3 (upd H3 p1 (.lst (cutV xs none (some (at' : Int))))) := Kp.new n1
        refine ⟨_, rfl, _, rfl, 1, rfl, f', _, rfl, SqT.of (j1.tp _ _ ef2), ?_, fun s1 m1 => ?_⟩
        · rintro ⟨z1, _⟩
          have : HT.sIx (tt.2.map V.str).length 0 (some 1) = min 1 (tt.2.map V.str).length := HT.sIx_nat _ _ 1
          rw [this] at z1
          omega
        have j2 := j1.snoc (o := .tup (cutV (tt.2.map V.str) (some 1) none)) m1
        refine ⟨_, rfl, 1, rfl, f', _, rfl, SqT.of (j2.tp _ _ ef2), ?_, fun s2 m2 => ?_⟩
        · rintro ⟨_, z1⟩
          have : HT.sIx (tt.2.map V.str).length (tt.2.map V.str).length (some 1) = min 1 (tt.2.map V.str).length := HT.sIx_nat _ _ 1
          rw [this] at z1
          omega
        have j3 := j2.snoc (o := .tup (cutV (tt.2.map V.str) none (some 1))) m2
        have x3 : cutV (tt.2.map V.str) (some 1) none = (tt.2.drop 1).map V.str := by rw [List.map_drop]; exact cut_drop (i := 1) (by omega)
        have x4 : cutV (tt.2.map V.str) none (some 1) = (tt.2.take 1).map V.str := by rw [List.map_take]; exact cut_take (i := 1) (by omega)
        have s12 : s1 ≠ s2 := fun z => by rw [← z, upd_same] at m2; cases m2
        refine ⟨s1, s2, _, _, rfl, rfl, SqT.of (by rw [upd_ne s12, upd_same]), SqT.of upd_same, ?_, ?_, ?_, fun _ s3 m3 => ?_⟩
        · rw [x3]; intro z
          have := congrArg List.length z
          rw [List.length_map, List.length_drop, List.length_nil] at this
          omega
        · rw [x3, x4, List.length_map, List.length_map, List.length_drop, List.length_take]
          exact Nat.le_trans (show _ ≤ 10 by omega) (by decide)
        · rw [x4]; intro z
          have := congrArg List.length z
          rw [List.length_map, List.length_take, List.length_nil] at this
          omega
        have j4 := j3.snoc (o := .tup (cutV (tt.2.map V.str) (some 1) none ++ cutV (tt.2.map V.str) none (some 1))) m3
        have hs3 : (upd (upd (upd (upd H3 p1 (.lst (cutV xs none (some (at' : Int))))) s1 (.tup (cutV (tt.2.map V.str) (some 1) none))) s2 (.tup (cutV (tt.2.map V.str) none (some 1)))) s3 (.tup (cutV (tt.2.map V.str) (some 1) none ++ cutV (tt.2.map V.str) none (some 1)))) s3 = some (.tup ((tt.2.drop 1 ++ tt.2.take 1).map V.str)) := by rw [upd_same, x3, x4, List.map_append]
        have hp1 : (upd (upd (upd (upd H3 p1 (.lst (cutV xs none (some (at' : Int))))) s1 (.tup (cutV (tt.2.map V.str) (some 1) none))) s2 (.tup (cutV (tt.2.map V.str) none (some 1)))) s3 (.tup (cutV (tt.2.map V.str) (some 1) none ++ cutV (tt.2.map V.str) none (some 1)))) p1 = some (.lst (cutV xs none (some (at' : Int)))) := (((Kp.new (ms := []) m1).snoc m2).snoc m3).at_ _ _ upd_same (fun z => nomatch z)
        have ht3 := j4.at_ _ _ ht2 (fun z => nomatch z)
        have B3 := B2.keep0 j4
        have KH3 : Kp [b] H _ := kH2.trans j4.zero
        refine ⟨by show 2 ≤ sizeLine; decide, fun q nq => ⟨by show 1 ≤ sizeLine; decide, fun p2 n2 => ?_⟩⟩
        have q4 : Kp [] (upd (upd (upd (upd H3 p1 (.lst (cutV xs none (some (at' : Int))))) s1 (.tup (cutV (tt.2.map V.str) (some 1) none))) s2 (.tup (cutV (tt.2.map V.str) none (some 1)))) s3 (.tup (cutV (tt.2.map V.str) (some 1) none ++ cutV (tt.2.map V.str) none (some 1)))) (upd (upd (upd (upd (upd H3 p1 (.lst (cutV xs none (some (at' : Int))))) s1 (.tup (cutV (tt.2.map V.str) (some 1) none))) s2 (.tup (cutV (tt.2.map V.str) none (some 1)))) s3 (.tup (cutV (tt.2.map V.str) (some 1) none ++ cutV (tt.2.map V.str) none (some 1)))) q (.tup [.str tt.1, .ref s3])) := Kp.new nq
        have q5 : Kp [] (upd (upd (upd (upd H3 p1 (.lst (cutV xs none (some (at' : Int))))) s1 (.tup (cutV (tt.2.map V.str) (some 1) none))) s2 (.tup (cutV (tt.2.map V.str) none (some 1)))) s3 (.tup (cutV (tt.2.map V.str) (some 1) none ++ cutV (tt.2.map V.str) none (some 1)))) (upd (upd (upd (upd (upd (upd H3 p1 (.lst (cutV xs none (some (at' : Int))))) s1 (.tup (cutV (tt.2.map V.str) (some 1) none))) s2 (.tup (cutV (tt.2.map V.str) none (some 1)))) s3 (.tup (cutV (tt.2.map V.str) (some 1) none ++ cutV (tt.2.map V.str) none (some 1)))) q (.tup [.str tt.1, .ref s3])) p2 (.lst [.ref q])) := q4.snoc n2
        refine ⟨p1, p2, _, _, rfl, rfl, q5.at_ _ _ hp1 (fun z => nomatch z), upd_same, ?_, fun p3 n3 => ?_⟩
        · have c1 := cutV_length xs none (some (at' : Int))
          show (cutV xs none (some (at' : Int))).length + 1 ≤ sizeLine
          exact Nat.le_trans (show _ ≤ 10 by omega) (by decide)
        have q6 := q5.snoc (o := .lst (cutV xs none (some (at' : Int)) ++ [.ref q])) n3
        refine ⟨_, rfl, _, rfl, _, _, rfl, rfl, (at' : Int) + 1, rfl, t, xs, rfl, SqL.of (q6.at_ _ _ ht3 (fun z => nomatch z)), fun p4 n4 => ?_⟩
        have q7 := q6.snoc (o := .lst (cutV xs (some ((at' : Int) + 1)) none)) n4
        have p34 : p3 ≠ p4 := fun z => by rw [← z, upd_same] at n4; cases n4
        refine ⟨p3, p4, _, _, rfl, rfl, by rw [upd_ne p34, upd_same], upd_same, ?_, fun p5 n5 => ?_⟩
        · have c1 := cutV_length xs none (some (at' : Int))
          have c2 := cutV_length xs (some ((at' : Int) + 1)) none
          rw [List.length_append]
          exact Nat.le_trans (show _ ≤ 20 by simp; omega) (by decide)
        have q8 := q7.snoc (o := .lst (cutV xs none (some (at' : Int)) ++ [.ref q] ++ cutV xs (some ((at' : Int) + 1)) none)) n5
        have e3 : cutV xs none (some (at' : Int)) = xs.take at' := cut_take (by omega)
        have e4 : cutV xs (some ((at' : Int) + 1)) none = xs.drop (at' + 1) := cut_drop (i := at' + 1) (by omega)
        have gg := (show GoodT (tt.1, tt.2.drop 1 ++ tt.2.take 1) from ⟨gt.1, fun w h => gt.2.1 w ((List.mem_append.mp h).elim List.mem_of_mem_drop List.mem_of_mem_take), nodup_rot gt.2.2.1, by simp; omega, by simp; omega⟩)
        have hs8 := q8.tp _ _ hs3
        have hq8 := (((Kp.new (ms := []) n2).snoc n3).snoc n4).snoc (o := .lst (cutV xs none (some (at' : Int)) ++ [.ref q] ++ cutV xs (some ((at' : Int) + 1)) none)) n5 |>.tp q _ upd_same
        refine fin (tt.1, tt.2.drop 1 ++ tt.2.take 1) _ q p5 [] (B3.keep0 q8) (KH3.trans q8.zero) ?_ gg (.inl rfl) (fun z => rot_ne gt.2.2.1 hl' (congrArg Prod.snd z)) (by rw [upd_same, e3, e4]) ((KH3.trans q7.zero).freeB (B3.keep0 q7) n5)
        exact .tup hq8 ⟨by simp, _, hq8⟩ (.cons (.str _ (nm_len gg.1)) (.cons (.tup hs8 ⟨by rw [List.length_map]; exact Nat.le_trans gg.2.2.2.2 (by decide), _, hs8⟩ (dtAll_strs fun w h => nm_len (gg.2.1 w h))) .nil))
      · rintro σ' H3 ⟨rfl, rfl⟩
        -- a field less
        refine ⟨fun σ H' => σ = [some (.ref b), some (.ref t), some (.int (at' : Int)), some (.str tt.1), some (.ref f'), some (.int ch), none, none] ∧ H' = H3, ?_, ?_⟩
        · refine ⟨_, rfl, rfl, _, rfl, ?_⟩
          refine ite2 (fun _ => ?_) (fun _ => ⟨rfl, rfl⟩)
          refine ⟨_, rfl, _, _, rfl, .inr ⟨_, SqT.of ef2, rfl⟩, _, _, rfl, rfl, _, rfl, ?_⟩
          refine ite2 (fun hl => ?_) (fun _ => ⟨rfl, rfl⟩)
          have hl' : 1 < tt.2.length := by
            have := of_decide_eq_true hl
            omega
          have g4 := gt.2.2.2.2
          refine ⟨_, rfl, _, rfl, (at' : Int), rfl, t, xs, rfl, SqL.of ht2, fun p1 n1 => ?_⟩
          have j1 : Kp [] H3 (upd H3 p1 (.lst (cutV xs none (some (at' : Int))))) := Kp.new n1
          have x3 : cutV (tt.2.map V.str) none (some (-1)) = (tt.2.take (tt.2.length - 1)).map V.str := by rw [List.map_take, cut_but (by omega), lf]
          refine ⟨_, rfl, _, rfl, _, rfl, -1, rfl, f', _, rfl, SqT.of (j1.tp _ _ ef2), ?_, fun s3 m1 => ?_⟩
          · rintro ⟨_, z1⟩
            have : HT.sIx (tt.2.map V.str).length (tt.2.map V.str).length (some (-1)) = (-1 + ((tt.2.map V.str).length : Int)).toNat := rfl
            rw [this] at z1
            omega
          have j4 := j1.snoc (o := .tup (cutV (tt.2.map V.str) none (some (-1)))) m1
          have hs3 : (upd (upd H3 p1 (.lst (cutV xs none (some (at' : Int))))) s3 (.tup (cutV (tt.2.map V.str) none (some (-1))))) s3 = some (.tup ((tt.2.take (tt.2.length - 1)).map V.str)) := by rw [upd_same, x3]
          have hp1 : (upd (upd H3 p1 (.lst (cutV xs none (some (at' : Int))))) s3 (.tup (cutV (tt.2.map V.str) none (some (-1))))) p1 = some (.lst (cutV xs none (some (at' : Int)))) := (Kp.new (ms := []) m1).at_ _ _ upd_same (fun z => nomatch z)
          have ht3 := j4.at_ _ _ ht2 (fun z => nomatch z)
          have B3 := B2.keep0 j4
          have KH3 : Kp [b] H _ := kH2.trans j4.zero
          refine ⟨by show 2 ≤ sizeLine; decide, fun q nq => ⟨by show 1 ≤ sizeLine; decide, fun p2 n2 => ?_⟩⟩
          have q4 : Kp [] (upd (upd H3 p1 (.lst (cutV xs none (some (at' : Int))))) s3 (.tup (cutV (tt.2.map V.str) none (some (-1))))) (upd (upd (upd H3 p1 (.lst (cutV xs none (some (at' : Int))))) s3 (.tup (cutV (tt.2.map V.str) none (some (-1))))) q (.tup [.str tt.1, .ref s3])) := Kp.new nq
          have q5 : Kp [] (upd (upd H3 p1 (.lst (cutV xs none (some (at' : Int))))) s3 (.tup (cutV (tt.2.map V.str) none (some (-1))))) (upd (upd (upd (upd H3 p1 (.lst (cutV xs none (some (at' : Int))))) s3 (.tup (cutV (tt.2.map V.str) none (some (-1))))) q (.tup [.str tt.1, .ref s3])) p2 (.lst [.ref q])) := q4.snoc n2
          refine ⟨p1, p2, _, _, rfl, rfl, q5.at_ _ _ hp1 (fun z => nomatch z), upd_same, ?_, fun p3 n3 => ?_⟩
          · have c1 := cutV_length xs none (some (at' : Int))
            show (cutV xs none (some (at' : Int))).length + 1 ≤ sizeLine
            exact Nat.le_trans (show _ ≤ 10 by omega) (by decide)
          have q6 := q5.snoc (o := .lst (cutV xs none (some (at' : Int)) ++ [.ref q])) n3
          refine ⟨_, rfl, _, rfl, _, _, rfl, rfl, (at' : Int) + 1, rfl, t, xs, rfl, SqL.of (q6.at_ _ _ ht3 (fun z => nomatch z)), fun p4 n4 => ?_⟩
          have q7 := q6.snoc (o := .lst (cutV xs (some ((at' : Int) + 1)) none)) n4
          have p34 : p3 ≠ p4 := fun z => by rw [← z, upd_same] at n4; cases n4
          refine ⟨p3, p4, _, _, rfl, rfl, by rw [upd_ne p34, upd_same], upd_same, ?_, fun p5 n5 => ?_⟩
          · have c1 := cutV_length xs none (some (at' : Int))
            have c2 := cutV_length xs (some ((at' : Int) + 1)) none
            rw [List.length_append]
            exact Nat.le_trans (show _ ≤ 20 by simp; omega) (by decide)
          have q8 := q7.snoc (o := .lst (cutV xs none (some (at' : Int)) ++ [.ref q] ++ cutV xs (some ((at' : Int) + 1)) none)) n5
          have e3 : cutV xs none (some (at' : Int)) = xs.take at' := cut_take (by omega)
          have e4 : cutV xs (some ((at' : Int) + 1)) none = xs.drop (at' + 1) := cut_drop (i := at' + 1) (by omega)
          have gg := (show GoodT (tt.1, tt.2.take (tt.2.length - 1)) from ⟨gt.1, fun w h => gt.2.1 w (List.mem_of_mem_take h), gt.2.2.1.sublist (List.take_sublist _ _), by simp; omega, by simp; omega⟩)
          have hs8 := q8.tp _ _ hs3
          have hq8 := (((Kp.new (ms := []) n2).snoc n3).snoc n4).snoc (o := .lst (cutV xs none (some (at' : Int)) ++ [.ref q] ++ cutV xs (some ((at' : Int) + 1)) none)) n5 |>.tp q _ upd_same
          refine fin (tt.1, tt.2.take (tt.2.length - 1)) _ q p5 [] (B3.keep0 q8) (KH3.trans q8.zero) ?_ gg (.inl rfl) (fun z => by have := congrArg (fun u => u.2.length) z; simp at this; omega) (by rw [upd_same, e3, e4]) ((KH3.trans q7.zero).freeB (B3.keep0 q7) n5)
          exact .tup hq8 ⟨by simp, _, hq8⟩ (.cons (.str _ (nm_len gg.1)) (.cons (.tup hs8 ⟨by rw [List.length_map]; exact Nat.le_trans gg.2.2.2.2 (by decide), _, hs8⟩ (dtAll_strs fun w h => nm_len (gg.2.1 w h))) .nil))
        · rintro σ' H3 ⟨rfl, rfl⟩
          -- a table less
          refine ⟨fun σ H' => σ = [some (.ref b), some (.ref t), some (.int (at' : Int)), some (.str tt.1), some (.ref f'), some (.int ch), none, none] ∧ H' = H3, ?_, ?_⟩
          · refine ⟨_, rfl, rfl, _, rfl, ?_⟩
            refine ite2 (fun _ => ?_) (fun _ => ⟨rfl, rfl⟩)
            refine ⟨_, rfl, _, _, rfl, .inl ⟨_, SqL.of ht2, rfl⟩, _, _, rfl, rfl, _, rfl, ?_⟩
            refine ite2 (fun hl => ?_) (fun _ => ⟨rfl, rfl⟩)
            have hl' : 1 < tbs.length := by
              have := of_decide_eq_true hl
              omega
            refine ⟨_, rfl, _, rfl, (at' : Int), rfl, t, xs, rfl, SqL.of ht2, fun p1 n1 => ?_⟩
            have j1 : Kp [] H3 (upd H3 p1 (.lst (cutV xs none (some (at' : Int))))) := Kp.new n1
            refine ⟨_, rfl, _, rfl, _, _, rfl, rfl, (at' : Int) + 1, rfl, t, xs, rfl, SqL.of (j1.at_ _ _ ht2 (fun z => nomatch z)), fun p4 n4 => ?_⟩
            have q7 := j1.snoc (o := .lst (cutV xs (some ((at' : Int) + 1)) none)) n4
            have p14 : p1 ≠ p4 := fun z => by rw [← z, upd_same] at n4; cases n4
            refine ⟨p1, p4, _, _, rfl, rfl, by rw [upd_ne p14, upd_same], upd_same, ?_, fun p5 n5 => ?_⟩
            · have c1 := cutV_length xs none (some (at' : Int))
              have c2 := cutV_length xs (some ((at' : Int) + 1)) none
              exact Nat.le_trans (show _ ≤ 20 by omega) (by decide)
            have q8 := q7.snoc (o := .lst (cutV xs none (some (at' : Int)) ++ cutV xs (some ((at' : Int) + 1)) none)) n5
            have e3 : cutV xs none (some (at' : Int)) = xs.take at' := cut_take (by omega)
            have e4 : cutV xs (some ((at' : Int) + 1)) none = xs.drop (at' + 1) := cut_drop (i := at' + 1) (by omega)
            obtain ⟨g1, g2⟩ := g.erase (i := at') (by omega) hl'
            refine k p5 _ _ _ (B2.keep0 q8) (kH2.trans q8.zero) upd_same ((kH2.trans q7.zero).freeB (B2.keep0 q7) n5) ?_ g1 g2
            rw [List.map_append, List.map_drop, List.map_take, e3, e4]
            exact ImAll.kp (ms := []) (by rw [e3, e4] at q8; exact q8) ((ix2.take at').append (ix2.drop (at' + 1)))
          · rintro σ' H3 ⟨rfl, rfl⟩
            -- another name
            refine ⟨_, rfl, t, rfl, ⟨_, SqL.of ht2⟩, fun pk nk => ?_⟩
            refine lc_it (walk_list (xs := xs)) (fun i H' => H' pk = some (.lst (((tbs.map (·.1)).take i).map V.str)) ∧ Kp [] H3 H') ⟨upd_same, Kp.new nk⟩ (fun i H' _ ⟨_, k4⟩ => SqL.of (k4.at_ _ _ ht2 (fun z => nomatch z))) ?_ ?_
            · rintro i x H4 H5 hi ⟨h4, k4⟩ ⟨rfl, hx⟩
              obtain ⟨dy, hdy, dty⟩ := ix2.getV hx
              rw [List.getElem?_map] at hdy
              cases ei : tbs[i]? with
              | none => rw [ei] at hdy; cases hdy
              | some ty =>
                rw [ei] at hdy
                cases hdy
                obtain ⟨a9, b9, rfl, z1, z2⟩ := Im.tab (n := 0) (Im.kp k4 dty)
                refine ⟨rfl, _, rfl, a9, _, _, _, rfl, rfl, SqT.of z1, rfl, _, h4, ?_, ?_, k4.late nk⟩
                · rw [List.length_map, List.length_take]
                  exact small1000 (by omega)
                · have en : (tbs.map (·.1))[i]? = some ty.1 := by rw [List.getElem?_map, ei]; rfl
                  rw [upd_same, take_snoc en, List.map_append]; rfl
            · rintro H4 ⟨h4, k4⟩
              rw [List.take_of_length_le (by rw [List.length_map, el]; exact Nat.le_refl _)] at h4
              have pkH : H pk = none := kH2.freeB B2 nk
              have B4 := B2.keep0 k4
              obtain ⟨pkb, pkc⟩ := B2.new nk
              have ht4 := k4.at_ _ _ ht2 (fun z => nomatch z)
              refine ⟨_, rfl, _, rfl, (at' : Int), rfl, t, xs, rfl, SqL.of ht4, fun p1 n1 => ?_⟩
              have j1 : Kp [] H4 (upd H4 p1 (.lst (cutV xs none (some (at' : Int))))) := Kp.new n1
              have p1b : p1 ≠ b := (B4.new n1).1
              have p1k : p1 ≠ pk := Ne.symm (ne_of_none h4 n1)
              have tk : t ≠ pk := ne_of_none ht2 nk
              refine ⟨_, rfl, _, rfl, b, c, pk, tbs.map (·.1), rfl, B4.keep0 j1, j1.at_ _ _ h4 (fun z => nomatch z), pkb, pkc, by rw [List.length_map]; omega, fun nn H5 n5' nm5 B3 h5 k5 => ?_⟩
              have hp1 : H5 p1 = some (.lst (cutV xs none (some (at' : Int)))) := k5.at_ _ _ upd_same (by simp [p1b, p1k])
              have ht3 : H5 t = some (.lst xs) := k5.at_ _ _ (j1.at_ _ _ ht4 (fun z => nomatch z)) (by simp [tb, tk])
              have hs3 : H5 f' = some (.tup (tt.2.map V.str)) := k5.tp _ _ (j1.tp _ _ (k4.tp _ _ ef2))
              have KH3 : Kp [b] H H5 := ((kH2.trans k4.zero).trans j1.zero).via k5 (by simp [pkH])
              refine ⟨_, rfl, by show 2 ≤ sizeLine; decide, fun q nq => ⟨by show 1 ≤ sizeLine; decide, fun p2 n2 => ?_⟩⟩
              have q4 : Kp [] H5 (upd H5 q (.tup [.str nn, .ref f'])) := Kp.new nq
              have q5 : Kp [] H5 (upd (upd H5 q (.tup [.str nn, .ref f'])) p2 (.lst [.ref q])) := q4.snoc n2
              refine ⟨p1, p2, _, _, rfl, rfl, q5.at_ _ _ hp1 (fun z => nomatch z), upd_same, ?_, fun p3 n3 => ?_⟩
              · have c1 := cutV_length xs none (some (at' : Int))
                show (cutV xs none (some (at' : Int))).length + 1 ≤ sizeLine
                exact Nat.le_trans (show _ ≤ 10 by omega) (by decide)
              have q6 := q5.snoc (o := .lst (cutV xs none (some (at' : Int)) ++ [.ref q])) n3
              refine ⟨_, rfl, _, rfl, _, _, rfl, rfl, (at' : Int) + 1, rfl, t, xs, rfl, SqL.of (q6.at_ _ _ ht3 (fun z => nomatch z)), fun p4 n4 => ?_⟩
              have q7 := q6.snoc (o := .lst (cutV xs (some ((at' : Int) + 1)) none)) n4
              have p34 : p3 ≠ p4 := fun z => by rw [← z, upd_same] at n4; cases n4
              refine ⟨p3, p4, _, _, rfl, rfl, by rw [upd_ne p34, upd_same], upd_same, ?_, fun p5 n5 => ?_⟩
              · have c1 := cutV_length xs none (some (at' : Int))
                have c2 := cutV_length xs (some ((at' : Int) + 1)) none
                rw [List.length_append]
                exact Nat.le_trans (show _ ≤ 20 by simp; omega) (by decide)
              have q8 := q7.snoc (o := .lst (cutV xs none (some (at' : Int)) ++ [.ref q] ++ cutV xs (some ((at' : Int) + 1)) none)) n5
              have e3 : cutV xs none (some (at' : Int)) = xs.take at' := cut_take (by omega)
              have e4 : cutV xs (some ((at' : Int) + 1)) none = xs.drop (at' + 1) := cut_drop (i := at' + 1) (by omega)
              have gg := (show GoodT (nn, tt.2) from ⟨n5', gt.2⟩)
              have hs8 := q8.tp _ _ hs3
              have hq8 := (((Kp.new (ms := []) n2).snoc n3).snoc n4).snoc (o := .lst (cutV xs none (some (at' : Int)) ++ [.ref q] ++ cutV xs (some ((at' : Int) + 1)) none)) n5 |>.tp q _ upd_same
              refine fin (nn, tt.2) _ q p5 [] (B3.keep0 q8) (KH3.trans q8.zero) ?_ gg (.inr nm5) (fun z => nm5 (by have hz : nn = tt.1 := congrArg Prod.fst z; rw [hz]; exact List.mem_map.mpr ⟨tt, List.mem_of_getElem? et, rfl⟩)) (by rw [upd_same, e3, e4]) ((KH3.trans q7.zero).freeB (B3.keep0 q7) n5)
              exact .tup hq8 ⟨by simp, _, hq8⟩ (.cons (.str _ (nm_len gg.1)) (.cons (.tup hs8 ⟨by rw [List.length_map]; exact Nat.le_trans gg.2.2.2.2 (by decide), _, hs8⟩ (dtAll_strs fun w h => nm_len (gg.2.1 w h))) .nil))
end
end Fm

namespace Fm
open PySem PySem.Spec PyProof.Rows L2
theorem row_uniq {d : PyData} {ds es : List PyData} (h : RowD d ds) (h' : RowD d es) : ds = es := by
  rcases h with h | h <;> rcases h' with h' | h' <;> rw [h] at h'
  · exact PyData.list.inj h'
  · cases h'
  · cases h'
  · exact PyData.tuple.inj h'
theorem shp_bad {d : PyData} {tbs : List (Str × List Str)} {i : Int} (h : ShpD d tbs) (b : ShpBad d i) : False := by
  obtain ⟨ds, hr, l1, l5, t1, t2⟩ := h
  rcases b with ⟨_, b⟩ | ⟨es, k, e, us, hr', m1, m5, _, he, u1, u2, b⟩
  · exact b ⟨ds, hr, l1, l5⟩
  · rw [row_uniq hr' hr] at he u1
    obtain ⟨t, ht, td⟩ := t1.get he
    have eu := (t1.take k).inj u1
    refine b ⟨t, td, ?_⟩
    rw [← eu, List.map_take]
    exact notin_take t2 (by rw [List.getElem?_map, ht]; rfl)
theorem shp_uniq {d : PyData} {tbs us : List (Str × List Str)} (h : ShpD d tbs) (h' : ShpD d us) : tbs = us := by
  obtain ⟨ds, hr, _, _, t1, _⟩ := h
  obtain ⟨es, hr', _, _, u1, _⟩ := h'
  rw [row_uniq hr' hr] at u1
  exact t1.inj u1
/-- Shape(v), v right: a new shape -/
theorem shape_made {C CE : Addr} {S : Addr → Prop} {q : Bool} {H : Hp} {n : Nat} {v : V} {d : PyData} {tbs : List (Str × List Str)} {R : Hp → Prop} {E : XK} {x dx : Addr} (hx : H x = none) (hdx : H dx = none) (ne : dx ≠ x) (hd : Dt S q H n v d) (hs : ShpD d tbs) (k : ∀ H', Kp [] H H' → ShapeAt C H' x tbs → R H') :
    spShapeI C CE [.ref x, v] (upd (upd H dx (.own x)) x (.ins C dx [])) (fun u H2 => u = .non ∧ R H2) E := by
  have k0 : Kp [] H (upd (upd H dx (.own x)) x (.ins C dx [])) := (Kp.new hdx).snoc (by rw [upd_ne (Ne.symm ne)]; exact hx)
  refine ⟨x, dx, S, q, n, v, d, rfl, upd_same, hd.keep k0, fun us H' hu k' sa => ⟨rfl, ?_⟩, fun i dd H' b _ _ _ => (shp_bad hs b).elim⟩
  rw [shp_uniq hu hs] at sa
  exact k H' (k0.via k' (by simp [hx])) sa
/-- a table handed in, its fields changed since -/
def PartOK (N : Addr → Prop) (H : Hp) (n : Nat) (v : V) : Prop := ∃ p s f, v = .ref p ∧ H p = some (.tup [s, .ref f]) ∧ ((∃ ys, H f = some (.tup ys)) ∨ ∃ ws : List Str, H f = some (.lst (ws.map V.str)) ∧ ws ≠ [] ∧ ws.length ≤ n ∧ N f)
theorem Pts.part {N : Addr → Prop} {H : Hp} : ∀ {ps : List V} {ds : List PyData} {ts : List (Str × List Str)}, Pts N H ps ds ts → (∀ t ∈ ts, GoodT t) → ∀ v ∈ ps, PartOK N H 4 v
  | _, _, _, .tup a b c, g, v, h => by
    rcases List.mem_cons.mp h with rfl | h
    · exact ⟨_, _, _, rfl, a, .inl ⟨_, b⟩⟩
    · exact c.part (fun x h => g x (List.mem_cons_of_mem _ h)) v h
  | _, _, _, .lst (t := t) a b n c, g, v, h => by
    rcases List.mem_cons.mp h with rfl | h
    · have gt := g t List.mem_cons_self
      exact ⟨_, _, _, rfl, a, .inr ⟨t.2, b, fun z => by have := gt.2.2.2.1; rw [z] at this; simp at this, gt.2.2.2.2, n⟩⟩
    · exact c.part (fun x h => g x (List.mem_cons_of_mem _ h)) v h
theorem PartOK.kp {N : Addr → Prop} {H H' : Hp} {n m : Nat} {v : V} {ms : List Addr} (h : PartOK N H n v) (k : Kp ms H H') (hm : ∀ x ∈ ms, ¬ N x) (hnm : n ≤ m) : PartOK N H' m v := by
  obtain ⟨p, s, f, rfl, hp, h⟩ := h
  refine ⟨p, s, f, rfl, k.tp _ _ hp, ?_⟩
  rcases h with ⟨ys, h⟩ | ⟨ws, h, h1, h2, h3⟩
  · exact .inl ⟨ys, k.tp _ _ h⟩
  · exact .inr ⟨ws, k.at_ _ _ h fun z => hm _ z h3, h1, Nat.le_trans h2 hnm, h3⟩
theorem Pts.refs {N : Addr → Prop} {H : Hp} : ∀ {ps : List V} {ds : List PyData} {ts : List (Str × List Str)}, Pts N H ps ds ts → ∀ v ∈ ps, ∃ a, v = .ref a
  | _, _, _, .tup a b c, v, h => by
    rcases List.mem_cons.mp h with rfl | h
    · exact ⟨_, rfl⟩
    · exact c.refs v h
  | _, _, _, .lst a b n c, v, h => by
    rcases List.mem_cons.mp h with rfl | h
    · exact ⟨_, rfl⟩
    · exact c.refs v h
def spLaw (K : PySem.W.Frag) : Sp := fun vs H Q _ => ∃ (a : Addr) (ns : List Int), vs = [.ref a] ∧ SqL K H a (ns.map V.int) ∧ ∀ H', Q (.bl true) H'
structure EqX (K : PySem.W.Frag) (C : Addr) : Prop where
  nf : ∀ T ∈ ["NoneType", "bool", "int", "str", "list", "tuple", "dict"], PySem.W.notFirst K C (.type T) = true
theorem EqX.nfD {K : PySem.W.Frag} {C : Addr} (T : EqX K C) (d : PyData) : PySem.W.notFirst K C (.type (tyS d)) = true := T.nf _ (by cases d <;> simp [tyS])
theorem nf_self {K : PySem.W.Frag} {C : Addr} : PySem.W.notFirst K C (.ref C) = true := by simp [PySem.W.notFirst]
section
variable {P : Program} {w : World} {K : PySem.W.Frag} {mg : Str → Option Value} {base : Heap}
theorem ok_law {C CE fI fE f : Addr} {fdI fdE fd : FuncData} (B : Bi mg) (F : Fun K "law" "law" s_law f fd) (T : ShCls K mg C) (X : InsX K C) (Y : EqX K C) (M : Mk K C fI)
    (GI : FnOk P w K mg base (L2.CX P w) 4 fI fdI ["self", "tables"] (spShapeI C CE)) (bI : Binds K fdI ["self", "tables"] [])
    (GE : FnOk P w K mg base CX0 1 fE fdE ["self", "other"] (spShEq C)) (bE : Binds K fdE ["self", "other"] []) (EC : EqC K C fE)
    (G_bag : Has P w K mg base CX0 "_law_bag" ["_law_script"] 1 (spBag K)) (G_tables : Has P w K mg base CX0 "_law_tables" ["_law_bag_here"] 3 spTables) (G_handed : Has P w K mg base CX0 "_law_handed" ["_law_bag_here", "_law_tables_here"] 2 spHanded)
    (G_copied : Has P w K mg base CX0 "_law_copied" ["_law_thing"] 4 (spCopied 3)) (G_alike : Has P w K mg base CX0 "_law_alike" ["_law_one", "_law_other"] 4 (spAlike 3)) (G_tells : Has P w K mg base CX0 "_law_tells" ["_law_shape", "_law_tables_here"] 5 (spTells C))
    (G_changed : Has P w K mg base CX0 "_law_changed" ["_law_bag_here", "_law_tables_here"] 3 spChanged) (G_odd : Has P w K mg base CX0 "_law_odd" ["_law_bag_here"] 2 spOdd) :
    FnOk P w K mg base CX0 7 f fd ["_law_script"] (spLaw K) := by
  refine F.ok sc_law (fun vs H Q E h => ?_) (fun cdv A outer s H vs Q E hr h => ?_)
  · obtain ⟨a, ns, rfl, _⟩ := h; rfl
  · obtain ⟨a, ns, rfl, hS, k⟩ := h
    have r1 : Room 1 _ := hr.mono (by decide)
    have r2 : Room 2 _ := hr.mono (by decide)
    have r3 : Room 3 _ := hr.mono (by decide)
    have r4 : Room 4 _ := hr.mono (by decide)
    have r5 : Room 5 _ := hr.mono (by decide)
    refine ⟨_, (pss_cons (ps_set (i := 1) sc_law.nd rfl (by first | exact Or.inl rfl | exact Or.inr rfl) (pe_has G_bag r1 (pa_cons (pv 0) pa_nil)))
  (pss_cons (ps_set (i := 2) sc_law.nd rfl (by first | exact Or.inl rfl | exact Or.inr rfl) (pe_has G_tables r3 (pa_cons (pv 1) pa_nil)))
  (pss_cons (ps_set (i := 3) sc_law.nd rfl (by first | exact Or.inl rfl | exact Or.inr rfl) (pe_has G_handed r2 (pa_cons (pv 1) (pa_cons (pv 2) pa_nil))))
  (pss_cons (ps_set (i := 4) sc_law.nd rfl (by first | exact Or.inl rfl | exact Or.inr rfl) (pe_has G_copied r4 (pa_cons (pv 3) pa_nil)))
  (pss_cons (ps_set (i := 5) sc_law.nd rfl (by first | exact Or.inl rfl | exact Or.inr rfl) (pe_make M GI r5 rfl T.mgC bI .nil passL (pa_cons (pv 3) pa_nil)))
  (C8.pss_cut (ps_if (PW.pt (pw_or (pt_not (pt_val (pe_has G_alike r4 (pa_cons (pv 3) (pa_cons (pv 4) pa_nil))))) (pw_or1 (pt_not (pt_val (pe_has G_tells r5 (pa_cons (pv 5) (pa_cons (pv 2) pa_nil))))))))
  (pss_one (ps_ret pe_bl))
  pss_nil)
  (C8.pss_cut (ps_for PassesOwn.never rfl (pi_or (pi_list (pv 3)) (pi_tup (pv 3))) (pg_name (i := 6) sc_law.nd rfl (by first | exact Or.inl rfl | exact Or.inr rfl))
  (pss_one (ps_if (pt_val (pe_callB call_isi (by rfl) B.isinstance (by decide +kernel) (pa_cons (pe_ix ix_tup (pv 6) pe_int (fun _ _ => rfl)) (pa_cons (pe_bltn (v := .ty "list") (by rfl) B.list (by decide +kernel) rfl) pa_nil))))
  (pss_cons (ps_expr (pe_bm PySem.F.plainAttrs_list PySem.F.slot_list_append PySem.F.type_list_append mt_append (pe_ix ix_tup (pv 6) pe_int (fun _ _ => rfl)) (pa_cons pe_str pa_nil)))
  (pss_one (ps_expr (pe_bm0 PySem.F.plainAttrs_list PySem.F.slot_list_reverse PySem.F.type_list_reverse mt_reverse (pe_ix ix_tup (pv 6) pe_int (fun _ _ => rfl))))))
  pss_nil)))
  (C8.pss_cut (ps_if (pt_val (pe_callB call_isi (by rfl) B.isinstance (by decide +kernel) (pa_cons (pv 3) (pa_cons (pe_bltn (v := .ty "list") (by rfl) B.list (by decide +kernel) rfl) pa_nil))))
  (pss_one (ps_expr (pe_bm0 PySem.F.plainAttrs_list PySem.F.slot_list_clear PySem.F.type_list_clear mt_clear (pv 3))))
  pss_nil)
  (pss_cons (ps_if (PW.pt (pw_or (pt_not (pt_val (pe_has G_tells r5 (pa_cons (pv 5) (pa_cons (pv 2) pa_nil))))) (pw_or1 (pt_not (pt_val (pe_has G_tells r5 (pa_cons (pv 5) (pa_cons (pv 2) pa_nil))))))))
  (pss_one (ps_ret pe_bl))
  pss_nil)
  (pss_cons (ps_set (i := 7) sc_law.nd rfl (by first | exact Or.inl rfl | exact Or.inr rfl) (pe_make M GI r5 rfl T.mgC bI .nil passL (pa_cons (pe_has G_handed r2 (pa_cons (pv 1) (pa_cons (pv 2) pa_nil))) pa_nil)))
  (pss_cons (ps_set (i := 8) sc_law.nd rfl (by first | exact Or.inl rfl | exact Or.inr rfl) (pe_make M GI r5 rfl T.mgC bI .nil passL (pa_cons (pe_has G_handed r2 (pa_cons (pv 1) (pa_cons (pe_has G_changed r3 (pa_cons (pv 1) (pa_cons (pv 2) pa_nil))) pa_nil))) pa_nil)))
  (C8.pss_cut (ps_for PassesOwn.never rfl (pi_list (pe_lst (pa_cons (pe_cmpR (op_eqO EC GE bE pass0 r1) (pv 5) (pv 7) (nomark _)) (pa_cons (pe_cmpR (op_eqO EC GE bE pass0 r1) (pv 7) (pv 5) (nomark _)) (pa_cons (pe_cmpR (op_eqO EC GE bE pass0 r1) (pv 5) (pv 5) (nomark _)) (pa_cons (pe_not (pe_cmpR (op_eqO EC GE bE pass0 r1) (pv 5) (pv 8) (nomark _))) (pa_cons (pe_not (pe_cmpR (op_eqO EC GE bE pass0 r1) (pv 8) (pv 7) (nomark _))) (pa_cons (pe_cmpR (op_neO EC GE bE pass0 r2) (pv 5) (pv 8) (nomark _)) pa_nil)))))))) (pg_name (i := 9) sc_law.nd rfl (by first | exact Or.inl rfl | exact Or.inr rfl))
  (pss_one (ps_if (pt_not (pt_val (pv 9)))
  (pss_one (ps_ret pe_bl))
  pss_nil)))
  (pss_cons (ps_if (PW.pt (pw_or (pt_cmpR (op_neO EC GE bE pass0 r2) (pv 5) (pv 7) (nomark _)) (pw_or (pt_cmpR (op_eqO EC GE bE pass0 r1) (pv 5) (pe_fld (pv 5) rfl) (nomark _)) (pw_or (pt_cmpR (op_eqO EC GE bE pass0 r1) (pv 5) pe_non (nomark _)) (pw_or (pt_cmpR (op_eqO EC GE bE pass0 r1) (pv 5) (pe_ix ix_tup (pe_ix ix_list (pv 2) pe_int (fun _ _ => rfl)) pe_int (fun _ _ => rfl)) (nomark _)) (pw_or1 (pt_cmpR (op_eqO EC GE bE pass0 r1) (pv 5) pe_int (nomark _))))))))
  (pss_one (ps_ret pe_bl))
  pss_nil)
  (pss_one (ps_ret (pe_and (pe_not (pe_cmpR (op_eqO EC GE bE pass0 r1) (pv 5) (pe_has G_odd r2 (pa_cons (pv 1) pa_nil)) (nomark _))) (pe_one (pe_has G_tells r5 (pa_cons (pv 8) (pa_cons (pe_fld (pv 8) rfl) pa_nil)))))))))))))))))))), ?_⟩
    refine ⟨_, rfl, a, ns, rfl, hS, fun b c H1 k1 nb nc B1 => ?_⟩
    refine ⟨_, rfl, b, c, rfl, B1, fun t xs tbs H2 B2 k2 nt ht ix g => ?_⟩
    obtain ⟨tb, tc⟩ := B1.new nt
    refine ⟨_, rfl, _, rfl, b, c, t, xs, tbs, rfl, B2, ht, tb, ix, by have := g.2.2.2; omega, fun v d H3 B3 k3 hA => ?_⟩
    have ht3 : H3 t = some (.lst xs) := k3.at_ _ _ ht (by simpa using tb)
    have ix3 := ImAll.kp k3 ix
    refine ⟨_, rfl, _, v, d, rfl, hA.dt g, fun y H4 k4 dy => ?_⟩
    refine ⟨_, rfl, fun p dp np ndp nep => shape_made np ndp nep ((hA.dt g).keep k4) (hA.shp g) fun H5 k5 SA => ?_⟩
    have ht5 : H5 t = some (.lst xs) := k5.at_ _ _ (k4.at_ _ _ ht3 (fun z => nomatch z)) (fun z => nomatch z)
    have ix5 := ImAll.kp k5 (ImAll.kp k4 ix3)
    have B5 := (B3.keep0 k4).keep0 k5
    obtain ⟨r, ps, ds, rfl, nr, hr0, pt⟩ := id hA
    refine ⟨fun σ H' => σ = [some (.ref a), some (.ref b), some (.ref t), some (.ref r), some y, some (.ref p), none, none, none, none] ∧ Kp [] H5 H', ?_, ?_⟩
    · refine ⟨_, rfl, _, rfl, _, _, .ref r, y, d, rfl, ((hA.dt g).keep k4).keep k5, (dy.keep k5).weak, fun H6 k6 => ⟨_, rfl, iteF ?_⟩⟩
      refine ⟨_, rfl, _, rfl, p, t, xs, tbs, rfl, SA.kp k6 (fun z => nomatch z), g, .inl (k6.at_ _ _ ht5 (fun z => nomatch z)), ImAll.kp k6 ix5, fun H7 k7 => ⟨_, rfl, iteF ?_⟩⟩
      exact ⟨rfl, k6.trans k7⟩
    · rintro σ' H6 ⟨rfl, k6⟩
      have SA6 := SA.kp k6 (fun z => nomatch z)
      have ht6 := k6.at_ _ _ ht5 (fun z => nomatch z)
      have ix6 := ImAll.kp k6 ix5
      have B6 := B5.keep0 k6
      have k36 : Kp [] H3 H6 := (k4.trans k5).trans k6
      have pt6 : ∀ u ∈ ps, PartOK (fun a => H2 a = none) H6 4 u := fun u hu => (pt.part g.1 u hu).kp k36 (fun x h => nomatch h) (Nat.le_refl _)
      -- the lists that were handed in are changed
      refine ⟨fun σ H' => (∃ v6 : Option V, σ = [some (.ref a), some (.ref b), some (.ref t), some (.ref r), some y, some (.ref p), v6, none, none, none]) ∧ Bag H' b c ∧ H' t = some (.lst xs) ∧ ImAll H' 2 xs (tbs.map dTab) ∧ ShapeAt C H' p tbs ∧ (H' r = some (.lst ps) ∨ H' r = some (.tup ps)), ?_, ?_⟩
      · rcases hr0 with ⟨hr3, _⟩ | ⟨hr3, _⟩
        all_goals have hr6 := k36.at_ _ _ hr3 (fun z => nomatch z)
        · refine .inl ⟨_, rfl, r, rfl, ⟨_, SqL.of hr6⟩, ?_⟩
          refine for_it (walk_list (xs := ps)) (fun i σ H' => (∃ v6 : Option V, σ = [some (.ref a), some (.ref b), some (.ref t), some (.ref r), some y, some (.ref p), v6, none, none, none]) ∧ Bag H' b c ∧ H' t = some (.lst xs) ∧ ImAll H' 2 xs (tbs.map dTab) ∧ ShapeAt C H' p tbs ∧ H' r = some (.lst ps) ∧ ∀ u ∈ ps, PartOK (fun a => H2 a = none) H' (4 + i) u)
            ⟨⟨none, rfl⟩, B6, ht6, ix6, SA6, hr6, pt6⟩ (fun i σ H' _ ⟨_, _, _, _, _, h, _⟩ => SqL.of h) ?_ ?_
          · rintro i u σ H7 H8 hi ⟨⟨v6, rfl⟩, B7, ht7, ix7, SA7, hr7, pt7⟩ ⟨rfl, hu⟩
            have hm : u ∈ ps := List.mem_of_getElem? hu
            have li : i < 10 := by have := g.2.2.2; have := pt.lens.1; omega
            obtain ⟨p', s', f', rfl, hp', hf⟩ := pt7 u hm
            rcases hf with ⟨ys, hf⟩ | ⟨ws, hf, w1, w2, w3⟩
            · refine ⟨_, rfl, p', _, _, _, rfl, rfl, SqT.of hp', rfl, _, _, _, _, _, rfl, .ty _, .base (.tup hf), kit_ty (kb_list (.tuple [])), _, rfl, iteF ?_⟩
              exact ⟨⟨_, rfl⟩, B7, ht7, ix7, SA7, hr7, fun u hu => (pt7 u hu).kp (Kp.refl (ms := []) _) (fun x h => nomatch h) (by omega)⟩
            · refine ⟨_, rfl, p', _, _, _, rfl, rfl, SqT.of hp', rfl, _, _, _, _, _, rfl, .ty _, .base (.lst hf), kit_ty (kb_list (.list [])), _, rfl, iteT ?_⟩
              refine ⟨_, rfl, p', _, _, _, rfl, rfl, SqT.of hp', rfl, .inl ⟨rfl, _, SqL.of hf⟩, f', _, _, rfl, rfl, hf, by rw [List.length_map]; exact small1000 (by omega), ?_⟩
              have pf : p' ≠ f' := fun z => by rw [z, hf] at hp'; cases hp'
              refine ⟨_, rfl, p', [s', .ref f'], _, .ref f', rfl, rfl, SqT.of (by rw [upd_ne pf]; exact hp'), rfl, .inl ⟨rfl, _, SqL.of upd_same⟩, f', _, rfl, rfl, upd_same, ?_⟩
              rw [upd_upd]
              have e9 : (ws.map V.str ++ [V.str "zzzzzzzz"]).reverse = ((ws ++ [("zzzzzzzz" : Str)]).reverse).map V.str := by rw [List.map_reverse, List.map_append]; rfl
              rw [e9]
              have k9 : Kp [f'] H8 (upd H8 f' (.lst (((ws ++ [("zzzzzzzz" : Str)]).reverse).map V.str))) := Kp.updL hf (by simp)
              obtain ⟨fb, fc⟩ := B2.new w3
              have ft : t ≠ f' := ne_of_none ht w3
              have fp : p ≠ f' := fun z => by
                obtain ⟨_, _, h, _⟩ := SA7
                rw [z, hf] at h; cases h
              have fr : r ≠ f' := fun z => by
                rw [z, hf] at hr7
                have e : ws.map V.str = ps := by injection hr7 with h; injection h
                rw [← e] at hm
                obtain ⟨_, _, h⟩ := List.mem_map.mp hm
                cases h
              refine ⟨⟨_, rfl⟩, B7.keep k9 (by simpa using Ne.symm fb) (by simpa using Ne.symm fc), k9.at_ _ _ ht7 (by simpa using ft), ImAll.kp k9 ix7, SA7.kp k9 (by simpa using fp), k9.at_ _ _ hr7 (by simpa using fr), fun u hu => ?_⟩
              obtain ⟨p2, s2, f2, rfl, hp2, hf2⟩ := pt7 u hu
              refine ⟨p2, s2, f2, rfl, k9.tp _ _ hp2, ?_⟩
              by_cases z : f2 = f'
              · exact .inr ⟨_, by rw [z, upd_same], by simp, by simp; omega, by rw [z]; exact w3⟩
              · rcases hf2 with ⟨ys, h⟩ | ⟨vs, h, h1, h2, h3⟩
                · exact .inl ⟨ys, k9.tp _ _ h⟩
                · exact .inr ⟨vs, k9.at_ _ _ h (by simpa using z), h1, by omega, h3⟩
          · rintro σ H7 ⟨⟨v6, rfl⟩, B7, ht7, ix7, SA7, hr7, pt7⟩
            exact ⟨⟨v6, rfl⟩, B7, ht7, ix7, SA7, .inl hr7⟩
        · refine .inr ⟨_, rfl, r, rfl, ⟨_, SqT.of hr6⟩, ?_⟩
          refine for_it (walk_tup (xs := ps)) (fun i σ H' => (∃ v6 : Option V, σ = [some (.ref a), some (.ref b), some (.ref t), some (.ref r), some y, some (.ref p), v6, none, none, none]) ∧ Bag H' b c ∧ H' t = some (.lst xs) ∧ ImAll H' 2 xs (tbs.map dTab) ∧ ShapeAt C H' p tbs ∧ H' r = some (.tup ps) ∧ ∀ u ∈ ps, PartOK (fun a => H2 a = none) H' (4 + i) u)
            ⟨⟨none, rfl⟩, B6, ht6, ix6, SA6, hr6, pt6⟩ (fun i σ H' _ ⟨_, _, _, _, _, h, _⟩ => SqT.of h) ?_ ?_
          · rintro i u σ H7 H8 hi ⟨⟨v6, rfl⟩, B7, ht7, ix7, SA7, hr7, pt7⟩ ⟨rfl, hu⟩
            have hm : u ∈ ps := List.mem_of_getElem? hu
            have li : i < 10 := by have := g.2.2.2; have := pt.lens.1; omega
            obtain ⟨p', s', f', rfl, hp', hf⟩ := pt7 u hm
            rcases hf with ⟨ys, hf⟩ | ⟨ws, hf, w1, w2, w3⟩
            · refine ⟨_, rfl, p', _, _, _, rfl, rfl, SqT.of hp', rfl, _, _, _, _, _, rfl, .ty _, .base (.tup hf), kit_ty (kb_list (.tuple [])), _, rfl, iteF ?_⟩
              exact ⟨⟨_, rfl⟩, B7, ht7, ix7, SA7, hr7, fun u hu => (pt7 u hu).kp (Kp.refl (ms := []) _) (fun x h => nomatch h) (by omega)⟩
            · refine ⟨_, rfl, p', _, _, _, rfl, rfl, SqT.of hp', rfl, _, _, _, _, _, rfl, .ty _, .base (.lst hf), kit_ty (kb_list (.list [])), _, rfl, iteT ?_⟩
              refine ⟨_, rfl, p', _, _, _, rfl, rfl, SqT.of hp', rfl, .inl ⟨rfl, _, SqL.of hf⟩, f', _, _, rfl, rfl, hf, by rw [List.length_map]; exact small1000 (by omega), ?_⟩
              have pf : p' ≠ f' := fun z => by rw [z, hf] at hp'; cases hp'
              refine ⟨_, rfl, p', [s', .ref f'], _, .ref f', rfl, rfl, SqT.of (by rw [upd_ne pf]; exact hp'), rfl, .inl ⟨rfl, _, SqL.of upd_same⟩, f', _, rfl, rfl, upd_same, ?_⟩
              rw [upd_upd]
              have e9 : (ws.map V.str ++ [V.str "zzzzzzzz"]).reverse = ((ws ++ [("zzzzzzzz" : Str)]).reverse).map V.str := by rw [List.map_reverse, List.map_append]; rfl
              rw [e9]
              have k9 : Kp [f'] H8 (upd H8 f' (.lst (((ws ++ [("zzzzzzzz" : Str)]).reverse).map V.str))) := Kp.updL hf (by simp)
              obtain ⟨fb, fc⟩ := B2.new w3
              have ft : t ≠ f' := ne_of_none ht w3
              have fp : p ≠ f' := fun z => by
                obtain ⟨_, _, h, _⟩ := SA7
                rw [z, hf] at h; cases h
              have fr : r ≠ f' := fun z => by
                rw [z, hf] at hr7
                cases hr7
              refine ⟨⟨_, rfl⟩, B7.keep k9 (by simpa using Ne.symm fb) (by simpa using Ne.symm fc), k9.at_ _ _ ht7 (by simpa using ft), ImAll.kp k9 ix7, SA7.kp k9 (by simpa using fp), k9.at_ _ _ hr7 (by simpa using fr), fun u hu => ?_⟩
              obtain ⟨p2, s2, f2, rfl, hp2, hf2⟩ := pt7 u hu
              refine ⟨p2, s2, f2, rfl, k9.tp _ _ hp2, ?_⟩
              by_cases z : f2 = f'
              · exact .inr ⟨_, by rw [z, upd_same], by simp, by simp; omega, by rw [z]; exact w3⟩
              · rcases hf2 with ⟨ys, h⟩ | ⟨vs, h, h1, h2, h3⟩
                · exact .inl ⟨ys, k9.tp _ _ h⟩
                · exact .inr ⟨vs, k9.at_ _ _ h (by simpa using z), h1, by omega, h3⟩
          · rintro σ H7 ⟨⟨v6, rfl⟩, B7, ht7, ix7, SA7, hr7, pt7⟩
            exact ⟨⟨v6, rfl⟩, B7, ht7, ix7, SA7, .inr hr7⟩
      · rintro σ' H7 ⟨⟨v6, rfl⟩, B7, ht7, ix7, SA7, hr7⟩
        refine ⟨fun σ H' => (∃ v6 : Option V, σ = [some (.ref a), some (.ref b), some (.ref t), some (.ref r), some y, some (.ref p), v6, none, none, none]) ∧ Bag H' b c ∧ H' t = some (.lst xs) ∧ ImAll H' 2 xs (tbs.map dTab) ∧ ShapeAt C H' p tbs, ?_, ?_⟩
        · rcases hr7 with hr7 | hr7
          · refine ⟨_, rfl, _, _, _, _, _, rfl, .ty _, .base (.lst hr7), kit_ty (kb_list (.list [])), _, rfl, iteT ?_⟩
            refine ⟨_, rfl, .inl ⟨rfl, _, SqL.of hr7⟩, r, _, rfl, rfl, hr7, ?_⟩
            have k9 : Kp [r] H7 (upd H7 r (.lst [])) := Kp.updL hr7 (by simp)
            obtain ⟨fb, fc⟩ := B2.new nr
            have ft : t ≠ r := ne_of_none ht nr
            have fp : p ≠ r := fun z => by
              obtain ⟨_, _, h, _⟩ := SA7
              rw [z, hr7] at h; cases h
            exact ⟨⟨_, rfl⟩, B7.keep k9 (by simpa using Ne.symm fb) (by simpa using Ne.symm fc), k9.at_ _ _ ht7 (by simpa using ft), ImAll.kp k9 ix7, SA7.kp k9 (by simpa using fp)⟩
          · refine ⟨_, rfl, _, _, _, _, _, rfl, .ty _, .base (.tup hr7), kit_ty (kb_list (.tuple [])), _, rfl, iteF ?_⟩
            exact ⟨⟨_, rfl⟩, B7, ht7, ix7, SA7⟩
        · rintro σ' H8 ⟨⟨v6, rfl⟩, B8, ht8, ix8, SA8⟩
          refine ⟨_, rfl, _, rfl, p, t, xs, tbs, rfl, SA8, g, .inl ht8, ix8, fun H9 k9 => ⟨_, rfl, iteF ?_⟩⟩
          refine ⟨_, rfl, _, rfl, p, t, xs, tbs, rfl, SA8.kp k9 (fun z => nomatch z), g, .inl (k9.at_ _ _ ht8 (fun z => nomatch z)), ImAll.kp k9 ix8, fun H10 k10 => ⟨_, rfl, iteF ?_⟩⟩
          have k8 := k9.trans k10
          have B10 := B8.keep0 k8
          have ht10 := k8.at_ _ _ ht8 (fun z => nomatch z)
          have ix10 := ImAll.kp k8 ix8
          have SA10 := SA8.kp k8 (fun z => nomatch z)
          have insB : ∀ {H' : Hp} {p : Addr} {us : List (Str × List Str)}, ShapeAt C H' p us → Bag H' b c → p ∉ [b] := fun {H' p us} sa B z => by
            have e : p = b := by simpa using z
            obtain ⟨_, _, h, _⟩ := sa
            obtain ⟨_, _, _, _, _, h', _⟩ := B.bg
            rw [e, h'] at h; cases h
          -- twin
          refine ⟨_, rfl, _, rfl, b, c, t, xs, tbs, rfl, B10, ht10, tb, ix10, by have := g.2.2.2; omega, fun v2 d2 H11 B11 k11 hA2 p2 dp2 np2 ndp2 ne2 => shape_made np2 ndp2 ne2 (hA2.dt g) (hA2.shp g) fun H12 k12 SA12 => ?_⟩
          have SP12 := (SA10.kp k11 (insB SA10 B10)).kp k12 (fun z => nomatch z)
          have B12 := B11.keep0 k12
          have ht12 : H12 t = some (.lst xs) := k12.at_ _ _ (k11.at_ _ _ ht10 (by simpa using tb)) (fun z => nomatch z)
          have ix12 := ImAll.kp k12 (ImAll.kp k11 ix10)
          -- other
          refine ⟨_, rfl, _, rfl, _, rfl, b, c, t, xs, tbs, rfl, B12, ht12, tb, ix12, g, fun t3 xs3 us H13 B13 k13 ht3 nt3 ix3 gu nu => ?_⟩
          refine ⟨b, c, t3, xs3, us, rfl, B13, ht3, (B12.new nt3).1, ix3, by have := gu.2.2.2; omega, fun v3 d3 H14 B14 k14 hA3 p3 dp3 np3 ndp3 ne3 => shape_made np3 ndp3 ne3 (hA3.dt gu) (hA3.shp gu) fun H15 k15 SA3 => ?_⟩
          have SP13 := SP12.kp k13 (insB SP12 B12)
          have SP := (SP13.kp k14 (insB SP13 B13)).kp k15 (fun z => nomatch z)
          have ST13 := SA12.kp k13 (insB SA12 B12)
          have ST := (ST13.kp k14 (insB ST13 B13)).kp k15 (fun z => nomatch z)
          have B15 := B14.keep0 k15
          have ht15 : H15 t = some (.lst xs) := k15.at_ _ _ (k14.at_ _ _ (k13.at_ _ _ ht12 (by simpa using tb)) (by simpa using tb)) (fun z => nomatch z)
          have ix15 := ImAll.kp k15 (ImAll.kp k14 (ImAll.kp k13 ix12))
          obtain ⟨dx, w0, hp, iv⟩ := id SP
          obtain ⟨dx2, w2, hp2, iv2⟩ := id ST
          obtain ⟨dx3, w3, hp3, iv3⟩ := id SA3
          refine ⟨fun σ H' => (∃ v6 v9 : Option V, σ = [some (.ref a), some (.ref b), some (.ref t), some (.ref r), some y, some (.ref p), v6, some (.ref p2), some (.ref p3), v9]) ∧ Kp [] H15 H', ?_, ?_⟩
          · refine ⟨_, rfl, _, rfl, p, dx, _, .ref C, rfl, hp, X.ty hp2, nf_self, p, .ref p2, tbs, rfl, SP, g.1, .inl ⟨p2, tbs, rfl, ST, g.1, _, rfl, _, rfl, _, rfl, p2, dx2, _, .ref C, rfl, hp2, X.ty hp, nf_self, p2, .ref p, tbs, rfl, ST, g.1, .inl ⟨p, tbs, rfl, SP, g.1, _, rfl, _, rfl, _, rfl, p, dx, _, .ref C, rfl, hp, X.ty hp, nf_self, p, .ref p, tbs, rfl, SP, g.1, .inl ⟨p, tbs, rfl, SP, g.1, _, rfl, _, rfl, _, rfl, p, dx, _, .ref C, rfl, hp, X.ty hp3, nf_self, p, .ref p3, tbs, rfl, SP, g.1, .inl ⟨p3, us, rfl, SA3, gu.1, _, rfl, ?_⟩⟩⟩⟩⟩
            refine ⟨_, rfl, ?_⟩
            refine ⟨_, rfl, _, rfl, p3, dx3, _, .ref C, rfl, hp3, X.ty hp2, nf_self, p3, .ref p2, us, rfl, SA3, gu.1, .inl ⟨p2, tbs, rfl, ST, g.1, _, rfl, ?_⟩⟩
            refine ⟨_, rfl, ?_⟩
            refine ⟨_, rfl, _, rfl, p, dx, _, .ref C, rfl, hp, X.ty hp3, nf_self, p, .ref p3, tbs, rfl, SP, g.1, .inl ⟨p3, us, rfl, SA3, gu.1, _, rfl, ?_⟩⟩
            refine ⟨by show 6 ≤ sizeLine; decide, fun l nl => ⟨l, rfl, ⟨_, SqL.of upd_same⟩, ?_⟩⟩
            have all : ∀ x ∈ [V.bl (decide (tbs = tbs)), V.bl (decide (tbs = tbs)), V.bl (decide (tbs = tbs)), V.bl (!decide (tbs = us)), V.bl (!decide (us = tbs)), V.bl (!decide (tbs = us))], x = V.bl true := by
              simp [nu, Ne.symm nu]
            refine for_it (walk_list (xs := [V.bl (decide (tbs = tbs)), V.bl (decide (tbs = tbs)), V.bl (decide (tbs = tbs)), V.bl (!decide (tbs = us)), V.bl (!decide (us = tbs)), V.bl (!decide (tbs = us))])) (fun i σ H' => (∃ v6 v9 : Option V, σ = [some (.ref a), some (.ref b), some (.ref t), some (.ref r), some y, some (.ref p), v6, some (.ref p2), some (.ref p3), v9]) ∧ H' = upd H15 l (.lst [V.bl (decide (tbs = tbs)), V.bl (decide (tbs = tbs)), V.bl (decide (tbs = tbs)), V.bl (!decide (tbs = us)), V.bl (!decide (us = tbs)), V.bl (!decide (tbs = us))])) ⟨⟨_, _, rfl⟩, rfl⟩ (fun i σ H' _ ⟨_, e⟩ => by rw [e]; exact SqL.of upd_same) ?_ ?_
            · rintro i x σ H16 H17 hi ⟨⟨v6, v9, rfl⟩, rfl⟩ ⟨rfl, hx⟩
              rw [all x (List.mem_of_getElem? hx)]
              exact ⟨_, rfl, _, rfl, iteF ⟨⟨_, _, rfl⟩, rfl⟩⟩
            · rintro σ H16 ⟨⟨v6, v9, rfl⟩, rfl⟩
              exact ⟨⟨_, _, rfl⟩, Kp.new nl⟩
          · rintro σ' H16 ⟨⟨v6', v9, rfl⟩, k16⟩
            have SP' := SP.kp k16 (fun z => nomatch z)
            have ST' := ST.kp k16 (fun z => nomatch z)
            have SO' := SA3.kp k16 (fun z => nomatch z)
            have B16 := B15.keep0 k16
            have ht16 := k16.at_ _ _ ht15 (fun z => nomatch z)
            have ix16 := ImAll.kp k16 ix15
            clear hp iv hp2 iv2 hp3 iv3
            obtain ⟨dx, w0, hp, iv⟩ := id SP'
            obtain ⟨dx2, w2, hp2, iv2⟩ := id ST'
            refine ⟨_, rfl, _, rfl, p, dx, _, .ref C, rfl, hp, X.ty hp2, nf_self, p, .ref p2, tbs, rfl, SP', g.1, .inl ⟨p2, tbs, rfl, ST', g.1, _, rfl, _, rfl, ?_⟩⟩
            rw [decide_eq_true (rfl : tbs = tbs)]
            refine iteF ?_
            -- == shape.tables
            refine ⟨_, rfl, _, rfl, p, C, dx, _, _, rfl, hp, T.cl, T.nT, rfl, p, dx, _, _, rfl, hp, iv.ty, Y.nfD _, p, w0, tbs, rfl, SP', g.1, .inr ⟨_, _, _, _, iv, _, rfl, _, rfl, iteF ?_⟩⟩
            -- == None
            refine ⟨_, rfl, p, dx, _, _, rfl, hp, .base .non, Y.nfD .none, p, .non, tbs, rfl, SP', g.1, .inr ⟨fun _ => True, true, 0, .none, .non, _, rfl, _, rfl, iteF ?_⟩⟩
            -- == tables[0][0]
            obtain ⟨u0, hu0⟩ : ∃ u, xs[0]? = some u := ⟨xs[0]'(by rw [ix16.len, List.length_map]; exact g.2.2.1), List.getElem?_eq_getElem _⟩
            obtain ⟨du, hdu, dt⟩ := ix16.getV hu0
            rw [List.getElem?_map] at hdu
            cases et : tbs[0]? with
            | none => rw [et] at hdu; cases hdu
            | some tt =>
            rw [et] at hdu
            cases hdu
            obtain ⟨a', f', rfl, e1, e2⟩ := Im.tab (n := 0) dt
            have gt := g.1 tt (List.mem_of_getElem? et)
            refine ⟨_, rfl, _, rfl, t, _, _, _, rfl, rfl, SqL.of ht16, atI_of (by decide) hu0, a', _, _, _, rfl, rfl, SqT.of e1, rfl, p, dx, _, _, rfl, hp, .base (.str _), Y.nfD (.str tt.1), p, .str tt.1, tbs, rfl, SP', g.1, .inr ⟨fun _ => True, true, 0, .str tt.1, .str _ (nm_len gt.1), _, rfl, _, rfl, iteF ?_⟩⟩
            -- == 0
            refine ⟨_, rfl, p, dx, _, _, rfl, hp, .base (.int _), Y.nfD (.int 0), p, .int 0, tbs, rfl, SP', g.1, .inr ⟨fun _ => True, true, 0, .int 0, .int 0, _, rfl, _, rfl, iteF ?_⟩⟩
            -- == odd
            refine ⟨_, rfl, _, rfl, b, c, rfl, B16, fun vo do' H17 B17 k17 dto => ?_⟩
            have SP17 := SP'.kp k17 (insB SP' B16)
            have SO17 := SO'.kp k17 (insB SO' B16)
            obtain ⟨dx', w0', hp', iv'⟩ := id SP17
            obtain ⟨dx3', w3', hp3', iv3'⟩ := id SO17
            refine ⟨p, dx', _, _, rfl, hp', dto.ty, Y.nfD _, p, vo, tbs, rfl, SP17, g.1, .inr ⟨_, _, _, _, dto, _, rfl, _, rfl, _, rfl, iteT ?_⟩⟩
            cases id iv3' with
            | @tup m tt3 ys _ r3 l3 a3 =>
              exact ⟨_, rfl, _, rfl, p3, C, dx3', _, _, rfl, hp3', T.cl, T.nT, rfl, p3, tt3, ys, us, rfl, SO17, gu, .inr r3, a3, fun H18 k18 => k H18⟩
end
end Fm

namespace Fm
open PySem PySem.Spec PyProof.Rows L2
theorem ok_BadShape_init {P : Program} {w : World} {K : PySem.W.Frag} {mg : Str → Option Value} {base : Heap} {f C : Addr} {fd : FuncData} (F : Fun K "__init__" "BadShape.__init__" s_BadShape_init f fd) (ox : OexC K C) (no : PySem.W.findIn K (.ref C) "at" = some none) : FnOk P w K mg base CX0 1 f fd ["self", "at"] (spErr C "at") := by
  refine F.ok sc_BadShape_init (fun vs H Q E h => ?_) (fun cdv A outer s H vs Q E hr h => ⟨_, pss_one (ps_ost (pv 0) (pv 1)), ?_⟩)
  · obtain ⟨a, y, rfl, _⟩ := h; rfl
  · obtain ⟨a, y, rfl, ha, k⟩ := h
    exact ⟨_, rfl, _, rfl, a, C, rfl, ox, no, .inl ⟨ha, fun dx h1 h2 => k dx h1 h2⟩⟩
theorem ok_BadName_init {P : Program} {w : World} {K : PySem.W.Frag} {mg : Str → Option Value} {base : Heap} {f C : Addr} {fd : FuncData} (F : Fun K "__init__" "BadName.__init__" s_BadName_init f fd) (ox : OexC K C) (no : PySem.W.findIn K (.ref C) "value" = some none) : FnOk P w K mg base CX0 1 f fd ["self", "value"] (spErr C "value") := by
  refine F.ok sc_BadName_init (fun vs H Q E h => ?_) (fun cdv A outer s H vs Q E hr h => ⟨_, pss_one (ps_ost (pv 0) (pv 1)), ?_⟩)
  · obtain ⟨a, y, rfl, _⟩ := h; rfl
  · obtain ⟨a, y, rfl, ha, k⟩ := h
    exact ⟨_, rfl, _, rfl, a, C, rfl, ox, no, .inl ⟨ha, fun dx h1 h2 => k dx h1 h2⟩⟩
theorem all_mk {l : PySem.W.OpenLaw} {w : World} {K : PySem.W.Frag} {h : Heap} {mg : Str → Option Value} {fa : Addr} (X : K.In h) (G : h.Ns mainGlobals mg) (hfa : mg "law" = some (.ref fa))
    {tk_LETTERS : Tok}
    {f_is_row : Addr} {od_is_row an_is_row : Option Addr} {sl_is_row : Array (Option Value)} {oc_is_row kV_is_row dc_is_row pm_is_row cd_is_row ct_is_row : Value}
    {f_is_name : Addr} {od_is_name an_is_name : Option Addr} {sl_is_name : Array (Option Value)} {oc_is_name kV_is_name dc_is_name pm_is_name cd_is_name ct_is_name : Value}
    {f_are_names : Addr} {od_are_names an_are_names : Option Addr} {sl_are_names : Array (Option Value)} {oc_are_names kV_are_names dc_are_names pm_are_names cd_are_names ct_are_names : Value}
    {f_is_table : Addr} {od_is_table an_is_table : Option Addr} {sl_is_table : Array (Option Value)} {oc_is_table kV_is_table dc_is_table pm_is_table cd_is_table ct_is_table : Value}
    {f_law_bag : Addr} {od_law_bag an_law_bag : Option Addr} {sl_law_bag : Array (Option Value)} {oc_law_bag kV_law_bag dc_law_bag pm_law_bag cd_law_bag ct_law_bag : Value}
    {f_law_pick : Addr} {od_law_pick an_law_pick : Option Addr} {sl_law_pick : Array (Option Value)} {oc_law_pick kV_law_pick dc_law_pick pm_law_pick cd_law_pick ct_law_pick : Value}
    {f_law_name : Addr} {od_law_name an_law_name : Option Addr} {sl_law_name : Array (Option Value)} {oc_law_name kV_law_name dc_law_name pm_law_name cd_law_name ct_law_name : Value}
    {f_law_tables : Addr} {od_law_tables an_law_tables : Option Addr} {sl_law_tables : Array (Option Value)} {oc_law_tables kV_law_tables dc_law_tables pm_law_tables cd_law_tables ct_law_tables : Value}
    {f_law_copied : Addr} {od_law_copied an_law_copied : Option Addr} {sl_law_copied : Array (Option Value)} {oc_law_copied kV_law_copied dc_law_copied pm_law_copied cd_law_copied ct_law_copied : Value}
    {f_law_alike : Addr} {od_law_alike an_law_alike : Option Addr} {sl_law_alike : Array (Option Value)} {oc_law_alike kV_law_alike dc_law_alike pm_law_alike cd_law_alike ct_law_alike : Value}
    {f_law_odd : Addr} {od_law_odd an_law_odd : Option Addr} {sl_law_odd : Array (Option Value)} {oc_law_odd kV_law_odd dc_law_odd pm_law_odd cd_law_odd ct_law_odd : Value}
    {f_law_handed : Addr} {od_law_handed an_law_handed : Option Addr} {sl_law_handed : Array (Option Value)} {oc_law_handed kV_law_handed dc_law_handed pm_law_handed cd_law_handed ct_law_handed : Value}
    {f_law_tells : Addr} {od_law_tells an_law_tells : Option Addr} {sl_law_tells : Array (Option Value)} {oc_law_tells kV_law_tells dc_law_tells pm_law_tells cd_law_tells ct_law_tells : Value}
    {f_law_changed : Addr} {od_law_changed an_law_changed : Option Addr} {sl_law_changed : Array (Option Value)} {oc_law_changed kV_law_changed dc_law_changed pm_law_changed cd_law_changed ct_law_changed : Value}
    {C_Shape : Addr}
    {f_Shape_init : Addr} {od_Shape_init an_Shape_init : Option Addr} {sl_Shape_init : Array (Option Value)} {oc_Shape_init kV_Shape_init dc_Shape_init pm_Shape_init cd_Shape_init ct_Shape_init : Value}
    {f_Shape_eq : Addr} {od_Shape_eq an_Shape_eq : Option Addr} {sl_Shape_eq : Array (Option Value)} {oc_Shape_eq kV_Shape_eq dc_Shape_eq pm_Shape_eq cd_Shape_eq ct_Shape_eq : Value}
    {f_Shape_fields_of : Addr} {od_Shape_fields_of an_Shape_fields_of : Option Addr} {sl_Shape_fields_of : Array (Option Value)} {oc_Shape_fields_of kV_Shape_fields_of dc_Shape_fields_of pm_Shape_fields_of cd_Shape_fields_of ct_Shape_fields_of : Value}
    {C_MetError : Addr}
    {C_BadShape : Addr} {nm_BadShape q_BadShape : Str} {N_BadShape : Addr} {bs_BadShape : List Value} {sn_BadShape : List Str} {sub_BadShape : List Value} {ab_BadShape : Bool} {col_BadShape : Option Bool} {dd_BadShape : Option Addr} {m0_BadShape m1_BadShape m2_BadShape m3_BadShape m5_BadShape : Option Value}
    {f_BadShape_init : Addr} {od_BadShape_init an_BadShape_init : Option Addr} {sl_BadShape_init : Array (Option Value)} {oc_BadShape_init kV_BadShape_init dc_BadShape_init pm_BadShape_init cd_BadShape_init ct_BadShape_init : Value}
    {C_BadName : Addr} {nm_BadName q_BadName : Str} {N_BadName : Addr} {bs_BadName : List Value} {sn_BadName : List Str} {sub_BadName : List Value} {ab_BadName : Bool} {col_BadName : Option Bool} {dd_BadName : Option Addr} {m0_BadName m1_BadName m2_BadName m3_BadName m5_BadName : Option Value}
    {f_BadName_init : Addr} {od_BadName_init an_BadName_init : Option Addr} {sl_BadName_init : Array (Option Value)} {oc_BadName_init kV_BadName_init dc_BadName_init pm_BadName_init cd_BadName_init ct_BadName_init : Value}
    {f_law : Addr} {od_law an_law : Option Addr} {sl_law : Array (Option Value)} {oc_law kV_law dc_law pm_law cd_law ct_law : Value}
    (z_len : PySem.W.nsIn K mainGlobals "len" = some none)
    (z_list : PySem.W.nsIn K mainGlobals "list" = some none)
    (z_tuple : PySem.W.nsIn K mainGlobals "tuple" = some none)
    (z_isinstance : PySem.W.nsIn K mainGlobals "isinstance" = some none)
    (z_int : PySem.W.nsIn K mainGlobals "int" = some none)
    (z_range : PySem.W.nsIn K mainGlobals "range" = some none)
    (z_max : PySem.W.nsIn K mainGlobals "max" = some none)
    (z_all : PySem.W.nsIn K mainGlobals "all" = some none)
    (z_bool : PySem.W.nsIn K mainGlobals "bool" = some none)
    (z_dict : PySem.W.nsIn K mainGlobals "dict" = some none)
    (z_str : PySem.W.nsIn K mainGlobals "str" = some none)
    (z_enumerate : PySem.W.nsIn K mainGlobals "enumerate" = some none)
    (n_LETTERS : PySem.W.nsIn K mainGlobals "LETTERS" = some (some (.str abc tk_LETTERS)))
    (a_is_row : PySem.W.nsIn K mainGlobals "is_row" = some (some (.ref f_is_row)))
    (l_is_row : K.lookup f_is_row = some ⟨oc_is_row, od_is_row, .func (PySem.W.fnOf "is_row" "is_row" (defArgs s_is_row) (defBody s_is_row) (defScope s_is_row) .none kV_is_row dc_is_row pm_is_row an_is_row cd_is_row ct_is_row), sl_is_row⟩)
    (c_is_row : PySem.W.codeIn K cd_is_row "is_row" = true)
    (k_is_row : PySem.W.keepIn K (.ref f_is_row) = true)
    (a_is_name : PySem.W.nsIn K mainGlobals "is_name" = some (some (.ref f_is_name)))
    (l_is_name : K.lookup f_is_name = some ⟨oc_is_name, od_is_name, .func (PySem.W.fnOf "is_name" "is_name" (defArgs s_is_name) (defBody s_is_name) (defScope s_is_name) .none kV_is_name dc_is_name pm_is_name an_is_name cd_is_name ct_is_name), sl_is_name⟩)
    (c_is_name : PySem.W.codeIn K cd_is_name "is_name" = true)
    (k_is_name : PySem.W.keepIn K (.ref f_is_name) = true)
    (a_are_names : PySem.W.nsIn K mainGlobals "are_names" = some (some (.ref f_are_names)))
    (l_are_names : K.lookup f_are_names = some ⟨oc_are_names, od_are_names, .func (PySem.W.fnOf "are_names" "are_names" (defArgs s_are_names) (defBody s_are_names) (defScope s_are_names) .none kV_are_names dc_are_names pm_are_names an_are_names cd_are_names ct_are_names), sl_are_names⟩)
    (c_are_names : PySem.W.codeIn K cd_are_names "are_names" = true)
    (k_are_names : PySem.W.keepIn K (.ref f_are_names) = true)
    (a_is_table : PySem.W.nsIn K mainGlobals "is_table" = some (some (.ref f_is_table)))
    (l_is_table : K.lookup f_is_table = some ⟨oc_is_table, od_is_table, .func (PySem.W.fnOf "is_table" "is_table" (defArgs s_is_table) (defBody s_is_table) (defScope s_is_table) .none kV_is_table dc_is_table pm_is_table an_is_table cd_is_table ct_is_table), sl_is_table⟩)
    (c_is_table : PySem.W.codeIn K cd_is_table "is_table" = true)
    (k_is_table : PySem.W.keepIn K (.ref f_is_table) = true)
    (a_law_bag : PySem.W.nsIn K mainGlobals "_law_bag" = some (some (.ref f_law_bag)))
    (l_law_bag : K.lookup f_law_bag = some ⟨oc_law_bag, od_law_bag, .func (PySem.W.fnOf "_law_bag" "_law_bag" (defArgs s__law_bag) (defBody s__law_bag) (defScope s__law_bag) .none kV_law_bag dc_law_bag pm_law_bag an_law_bag cd_law_bag ct_law_bag), sl_law_bag⟩)
    (c_law_bag : PySem.W.codeIn K cd_law_bag "_law_bag" = true)
    (k_law_bag : PySem.W.keepIn K (.ref f_law_bag) = true)
    (a_law_pick : PySem.W.nsIn K mainGlobals "_law_pick" = some (some (.ref f_law_pick)))
    (l_law_pick : K.lookup f_law_pick = some ⟨oc_law_pick, od_law_pick, .func (PySem.W.fnOf "_law_pick" "_law_pick" (defArgs s__law_pick) (defBody s__law_pick) (defScope s__law_pick) .none kV_law_pick dc_law_pick pm_law_pick an_law_pick cd_law_pick ct_law_pick), sl_law_pick⟩)
    (c_law_pick : PySem.W.codeIn K cd_law_pick "_law_pick" = true)
    (k_law_pick : PySem.W.keepIn K (.ref f_law_pick) = true)
    (a_law_name : PySem.W.nsIn K mainGlobals "_law_name" = some (some (.ref f_law_name)))
    (l_law_name : K.lookup f_law_name = some ⟨oc_law_name, od_law_name, .func (PySem.W.fnOf "_law_name" "_law_name" (defArgs s__law_name) (defBody s__law_name) (defScope s__law_name) .none kV_law_name dc_law_name pm_law_name an_law_name cd_law_name ct_law_name), sl_law_name⟩)
    (c_law_name : PySem.W.codeIn K cd_law_name "_law_name" = true)
    (k_law_name : PySem.W.keepIn K (.ref f_law_name) = true)
    (a_law_tables : PySem.W.nsIn K mainGlobals "_law_tables" = some (some (.ref f_law_tables)))
    (l_law_tables : K.lookup f_law_tables = some ⟨oc_law_tables, od_law_tables, .func (PySem.W.fnOf "_law_tables" "_law_tables" (defArgs s__law_tables) (defBody s__law_tables) (defScope s__law_tables) .none kV_law_tables dc_law_tables pm_law_tables an_law_tables cd_law_tables ct_law_tables), sl_law_tables⟩)
    (c_law_tables : PySem.W.codeIn K cd_law_tables "_law_tables" = true)
    (k_law_tables : PySem.W.keepIn K (.ref f_law_tables) = true)
    (a_law_copied : PySem.W.nsIn K mainGlobals "_law_copied" = some (some (.ref f_law_copied)))
    (l_law_copied : K.lookup f_law_copied = some ⟨oc_law_copied, od_law_copied, .func (PySem.W.fnOf "_law_copied" "_law_copied" (defArgs s__law_copied) (defBody s__law_copied) (defScope s__law_copied) .none kV_law_copied dc_law_copied pm_law_copied an_law_copied cd_law_copied ct_law_copied), sl_law_copied⟩)
    (c_law_copied : PySem.W.codeIn K cd_law_copied "_law_copied" = true)
    (k_law_copied : PySem.W.keepIn K (.ref f_law_copied) = true)
    (a_law_alike : PySem.W.nsIn K mainGlobals "_law_alike" = some (some (.ref f_law_alike)))
    (l_law_alike : K.lookup f_law_alike = some ⟨oc_law_alike, od_law_alike, .func (PySem.W.fnOf "_law_alike" "_law_alike" (defArgs s__law_alike) (defBody s__law_alike) (defScope s__law_alike) .none kV_law_alike dc_law_alike pm_law_alike an_law_alike cd_law_alike ct_law_alike), sl_law_alike⟩)
    (c_law_alike : PySem.W.codeIn K cd_law_alike "_law_alike" = true)
    (k_law_alike : PySem.W.keepIn K (.ref f_law_alike) = true)
    (a_law_odd : PySem.W.nsIn K mainGlobals "_law_odd" = some (some (.ref f_law_odd)))
    (l_law_odd : K.lookup f_law_odd = some ⟨oc_law_odd, od_law_odd, .func (PySem.W.fnOf "_law_odd" "_law_odd" (defArgs s__law_odd) (defBody s__law_odd) (defScope s__law_odd) .none kV_law_odd dc_law_odd pm_law_odd an_law_odd cd_law_odd ct_law_odd), sl_law_odd⟩)
    (c_law_odd : PySem.W.codeIn K cd_law_odd "_law_odd" = true)
    (k_law_odd : PySem.W.keepIn K (.ref f_law_odd) = true)
    (a_law_handed : PySem.W.nsIn K mainGlobals "_law_handed" = some (some (.ref f_law_handed)))
    (l_law_handed : K.lookup f_law_handed = some ⟨oc_law_handed, od_law_handed, .func (PySem.W.fnOf "_law_handed" "_law_handed" (defArgs s__law_handed) (defBody s__law_handed) (defScope s__law_handed) .none kV_law_handed dc_law_handed pm_law_handed an_law_handed cd_law_handed ct_law_handed), sl_law_handed⟩)
    (c_law_handed : PySem.W.codeIn K cd_law_handed "_law_handed" = true)
    (k_law_handed : PySem.W.keepIn K (.ref f_law_handed) = true)
    (a_law_tells : PySem.W.nsIn K mainGlobals "_law_tells" = some (some (.ref f_law_tells)))
    (l_law_tells : K.lookup f_law_tells = some ⟨oc_law_tells, od_law_tells, .func (PySem.W.fnOf "_law_tells" "_law_tells" (defArgs s__law_tells) (defBody s__law_tells) (defScope s__law_tells) .none kV_law_tells dc_law_tells pm_law_tells an_law_tells cd_law_tells ct_law_tells), sl_law_tells⟩)
    (c_law_tells : PySem.W.codeIn K cd_law_tells "_law_tells" = true)
    (k_law_tells : PySem.W.keepIn K (.ref f_law_tells) = true)
    (a_law_changed : PySem.W.nsIn K mainGlobals "_law_changed" = some (some (.ref f_law_changed)))
    (l_law_changed : K.lookup f_law_changed = some ⟨oc_law_changed, od_law_changed, .func (PySem.W.fnOf "_law_changed" "_law_changed" (defArgs s__law_changed) (defBody s__law_changed) (defScope s__law_changed) .none kV_law_changed dc_law_changed pm_law_changed an_law_changed cd_law_changed ct_law_changed), sl_law_changed⟩)
    (c_law_changed : PySem.W.codeIn K cd_law_changed "_law_changed" = true)
    (k_law_changed : PySem.W.keepIn K (.ref f_law_changed) = true)
    (m_Shape : PySem.W.nsIn K mainGlobals "Shape" = some (some (.ref C_Shape)))
    (a_Shape_init : PySem.W.findIn K (.ref C_Shape) "__init__" = some (some (.ref f_Shape_init)))
    (l_Shape_init : K.lookup f_Shape_init = some ⟨oc_Shape_init, od_Shape_init, .func (PySem.W.fnOf "__init__" "Shape.__init__" (defArgs s_Shape_init) (defBody s_Shape_init) (defScope s_Shape_init) .none kV_Shape_init dc_Shape_init pm_Shape_init an_Shape_init cd_Shape_init ct_Shape_init), sl_Shape_init⟩)
    (c_Shape_init : PySem.W.codeIn K cd_Shape_init "Shape.__init__" = true)
    (k_Shape_init : PySem.W.keepIn K (.ref f_Shape_init) = true)
    (i_Shape_init : PySem.W.isFn K (.ref f_Shape_init) = true)
    (a_Shape_eq : PySem.W.findIn K (.ref C_Shape) "__eq__" = some (some (.ref f_Shape_eq)))
    (l_Shape_eq : K.lookup f_Shape_eq = some ⟨oc_Shape_eq, od_Shape_eq, .func (PySem.W.fnOf "__eq__" "Shape.__eq__" (defArgs s_Shape_eq) (defBody s_Shape_eq) (defScope s_Shape_eq) .none kV_Shape_eq dc_Shape_eq pm_Shape_eq an_Shape_eq cd_Shape_eq ct_Shape_eq), sl_Shape_eq⟩)
    (c_Shape_eq : PySem.W.codeIn K cd_Shape_eq "Shape.__eq__" = true)
    (k_Shape_eq : PySem.W.keepIn K (.ref f_Shape_eq) = true)
    (i_Shape_eq : PySem.W.isFn K (.ref f_Shape_eq) = true)
    (a_Shape_fields_of : PySem.W.findIn K (.ref C_Shape) "fields_of" = some (some (.ref f_Shape_fields_of)))
    (l_Shape_fields_of : K.lookup f_Shape_fields_of = some ⟨oc_Shape_fields_of, od_Shape_fields_of, .func (PySem.W.fnOf "fields_of" "Shape.fields_of" (defArgs s_Shape_fields_of) (defBody s_Shape_fields_of) (defScope s_Shape_fields_of) .none kV_Shape_fields_of dc_Shape_fields_of pm_Shape_fields_of an_Shape_fields_of cd_Shape_fields_of ct_Shape_fields_of), sl_Shape_fields_of⟩)
    (c_Shape_fields_of : PySem.W.codeIn K cd_Shape_fields_of "Shape.fields_of" = true)
    (k_Shape_fields_of : PySem.W.keepIn K (.ref f_Shape_fields_of) = true)
    (i_Shape_fields_of : PySem.W.isFn K (.ref f_Shape_fields_of) = true)
    (pg_Shape : PySem.W.plainGet K C_Shape Str.empty = true)
    (hd_Shape : PySem.W.hasDictIn K C_Shape = true)
    (po_Shape : PySem.W.plainOver K C_Shape = true)
    (sa_Shape : PySem.W.findIn K (.ref C_Shape) "__setattr__" = some (some (.builtin "object.__setattr__")))
    (mk_Shape : PySem.W.makesIn K C_Shape = true)
    (kc_Shape : PySem.W.keepIn K (.ref C_Shape) = true)
    (na_Shape_tables : PySem.W.findIn K (.ref C_Shape) "tables" = some none)
    (ha_Shape : PySem.W.findIn K (.ref C_Shape) "__class__" = some (some (.builtin "object.__class__")))
    (hn_Shape : PySem.W.specialIn K (.builtin "object.__class__") "__get__" = some (some (.builtin "getset_descriptor.__get__")))
    (ht_Shape : PySem.W.takesIn K (.builtin "object.__class__") = some true)
    (hm_Shape : PySem.W.mroIn K C_Shape (.type "object") = some true)
    (ne_Shape : PySem.W.findIn K (.ref C_Shape) "__ne__" = some (some (.builtin "object.__ne__")))
    (ob_Shape : PySem.W.subIn K (.ref C_Shape) (.type "object") = some true)
    (kt_Shape_NoneType : PySem.W.kitOne K (.type "NoneType") (.ref C_Shape) = some false)
    (nf_Shape_NoneType : PySem.W.notFirst K C_Shape (.type "NoneType") = true)
    (kt_Shape_bool : PySem.W.kitOne K (.type "bool") (.ref C_Shape) = some false)
    (nf_Shape_bool : PySem.W.notFirst K C_Shape (.type "bool") = true)
    (kt_Shape_int : PySem.W.kitOne K (.type "int") (.ref C_Shape) = some false)
    (nf_Shape_int : PySem.W.notFirst K C_Shape (.type "int") = true)
    (kt_Shape_str : PySem.W.kitOne K (.type "str") (.ref C_Shape) = some false)
    (nf_Shape_str : PySem.W.notFirst K C_Shape (.type "str") = true)
    (kt_Shape_list : PySem.W.kitOne K (.type "list") (.ref C_Shape) = some false)
    (nf_Shape_list : PySem.W.notFirst K C_Shape (.type "list") = true)
    (kt_Shape_tuple : PySem.W.kitOne K (.type "tuple") (.ref C_Shape) = some false)
    (nf_Shape_tuple : PySem.W.notFirst K C_Shape (.type "tuple") = true)
    (kt_Shape_dict : PySem.W.kitOne K (.type "dict") (.ref C_Shape) = some false)
    (nf_Shape_dict : PySem.W.notFirst K C_Shape (.type "dict") = true)
    (m_BadShape : PySem.W.nsIn K mainGlobals "BadShape" = some (some (.ref C_BadShape)))
    (x_BadShape : K.lookup C_BadShape = some (excClassObj nm_BadShape q_BadShape C_BadShape N_BadShape bs_BadShape [.ref C_MetError, .type "ValueError", .type "Exception", .type "BaseException", .type "object"] true sn_BadShape sub_BadShape ab_BadShape col_BadShape dd_BadShape m0_BadShape m1_BadShape m2_BadShape m3_BadShape m5_BadShape "ValueError.__new__"))
    (s_BadShape : PySem.W.findIn K (.ref C_BadShape) "__setattr__" = some (some (.builtin "object.__setattr__")))
    (ga_BadShape : PySem.W.findIn K (.ref C_BadShape) "__getattribute__" = some (some (.builtin "BaseException.__getattribute__")))
    (gg_BadShape : PySem.W.findIn K (.ref C_BadShape) "__getattr__" = some none)
    (no_BadShape : PySem.W.findIn K (.ref C_BadShape) "at" = some none)
    (a_BadShape_init : PySem.W.findIn K (.ref C_BadShape) "__init__" = some (some (.ref f_BadShape_init)))
    (l_BadShape_init : K.lookup f_BadShape_init = some ⟨oc_BadShape_init, od_BadShape_init, .func (PySem.W.fnOf "__init__" "BadShape.__init__" (defArgs s_BadShape_init) (defBody s_BadShape_init) (defScope s_BadShape_init) .none kV_BadShape_init dc_BadShape_init pm_BadShape_init an_BadShape_init cd_BadShape_init ct_BadShape_init), sl_BadShape_init⟩)
    (c_BadShape_init : PySem.W.codeIn K cd_BadShape_init "BadShape.__init__" = true)
    (k_BadShape_init : PySem.W.keepIn K (.ref f_BadShape_init) = true)
    (t_BadShape_init : PySem.W.typeIn K (.ref f_BadShape_init) = some (.type "function"))
    (e_BadShape : PySem.W.subIn K (.ref C_BadShape) (.type "BaseException") = some true)
    (ty_BadShape : PySem.W.typeIn K (.ref C_BadShape) = some (.type "type"))
    (kk_BadShape : PySem.W.keepIn K (.ref C_BadShape) = true)
    (hd_BadShape : PySem.W.hasDictIn K C_BadShape = true)
    (m_BadName : PySem.W.nsIn K mainGlobals "BadName" = some (some (.ref C_BadName)))
    (x_BadName : K.lookup C_BadName = some (excClassObj nm_BadName q_BadName C_BadName N_BadName bs_BadName [.ref C_MetError, .type "ValueError", .type "Exception", .type "BaseException", .type "object"] true sn_BadName sub_BadName ab_BadName col_BadName dd_BadName m0_BadName m1_BadName m2_BadName m3_BadName m5_BadName "ValueError.__new__"))
    (s_BadName : PySem.W.findIn K (.ref C_BadName) "__setattr__" = some (some (.builtin "object.__setattr__")))
    (ga_BadName : PySem.W.findIn K (.ref C_BadName) "__getattribute__" = some (some (.builtin "BaseException.__getattribute__")))
    (gg_BadName : PySem.W.findIn K (.ref C_BadName) "__getattr__" = some none)
    (no_BadName : PySem.W.findIn K (.ref C_BadName) "value" = some none)
    (a_BadName_init : PySem.W.findIn K (.ref C_BadName) "__init__" = some (some (.ref f_BadName_init)))
    (l_BadName_init : K.lookup f_BadName_init = some ⟨oc_BadName_init, od_BadName_init, .func (PySem.W.fnOf "__init__" "BadName.__init__" (defArgs s_BadName_init) (defBody s_BadName_init) (defScope s_BadName_init) .none kV_BadName_init dc_BadName_init pm_BadName_init an_BadName_init cd_BadName_init ct_BadName_init), sl_BadName_init⟩)
    (c_BadName_init : PySem.W.codeIn K cd_BadName_init "BadName.__init__" = true)
    (k_BadName_init : PySem.W.keepIn K (.ref f_BadName_init) = true)
    (t_BadName_init : PySem.W.typeIn K (.ref f_BadName_init) = some (.type "function"))
    (e_BadName : PySem.W.subIn K (.ref C_BadName) (.type "BaseException") = some true)
    (ty_BadName : PySem.W.typeIn K (.ref C_BadName) = some (.type "type"))
    (kk_BadName : PySem.W.keepIn K (.ref C_BadName) = true)
    (hd_BadName : PySem.W.hasDictIn K C_BadName = true)
    (a_law : PySem.W.nsIn K mainGlobals "law" = some (some (.ref f_law)))
    (l_law : K.lookup f_law = some ⟨oc_law, od_law, .func (PySem.W.fnOf "law" "law" (defArgs s_law) (defBody s_law) (defScope s_law) .none kV_law dc_law pm_law an_law cd_law ct_law), sl_law⟩)
    (c_law : PySem.W.codeIn K cd_law "law" = true)
    (k_law : PySem.W.keepIn K (.ref f_law) = true) :
    ∃ fd : FuncData, (∀ (s : Shared) (v : Value), BindsTo s fd ⟨[v], []⟩ [("_law_script", v)]) ∧ ∀ base : Heap, K.In base → base.Ns mainGlobals mg → FnOk l.prog w K mg base CX0 7 fa fd ["_law_script"] (spLaw K) := by
  have e := hfa.symm.trans (PySem.W.mg_of X G a_law)
  cases e
  have B : Bi mg := ⟨PySem.W.mg_none_of X G z_len, PySem.W.mg_none_of X G z_list, PySem.W.mg_none_of X G z_tuple, PySem.W.mg_none_of X G z_isinstance, PySem.W.mg_none_of X G z_int, PySem.W.mg_none_of X G z_range, PySem.W.mg_none_of X G z_max, PySem.W.mg_none_of X G z_all, PySem.W.mg_none_of X G z_bool, PySem.W.mg_none_of X G z_dict, PySem.W.mg_none_of X G z_str, PySem.W.mg_none_of X G z_enumerate⟩
  have N_LETTERS := PySem.W.mg_of X G n_LETTERS
  have F_is_row := fun_mk (st := s_is_row) l_is_row c_is_row k_is_row
  have b_is_row := F_is_row.binds (ps := ["thing"]) fun _ _ _ _ _ _ us hl => match us, hl with | [_], _ => rfl
  have D_is_row : Dfn K mg "is_row" s_is_row ["thing"] := ⟨_, _, F_is_row, PySem.W.mg_of X G a_is_row, b_is_row⟩
  have F_is_name := fun_mk (st := s_is_name) l_is_name c_is_name k_is_name
  have b_is_name := F_is_name.binds (ps := ["thing"]) fun _ _ _ _ _ _ us hl => match us, hl with | [_], _ => rfl
  have D_is_name : Dfn K mg "is_name" s_is_name ["thing"] := ⟨_, _, F_is_name, PySem.W.mg_of X G a_is_name, b_is_name⟩
  have F_are_names := fun_mk (st := s_are_names) l_are_names c_are_names k_are_names
  have b_are_names := F_are_names.binds (ps := ["thing", "least", "most"]) fun _ _ _ _ _ _ us hl => match us, hl with | [_, _, _], _ => rfl
  have D_are_names : Dfn K mg "are_names" s_are_names ["thing", "least", "most"] := ⟨_, _, F_are_names, PySem.W.mg_of X G a_are_names, b_are_names⟩
  have F_is_table := fun_mk (st := s_is_table) l_is_table c_is_table k_is_table
  have b_is_table := F_is_table.binds (ps := ["thing"]) fun _ _ _ _ _ _ us hl => match us, hl with | [_], _ => rfl
  have D_is_table : Dfn K mg "is_table" s_is_table ["thing"] := ⟨_, _, F_is_table, PySem.W.mg_of X G a_is_table, b_is_table⟩
  have F_law_bag := fun_mk (st := s__law_bag) l_law_bag c_law_bag k_law_bag
  have b_law_bag := F_law_bag.binds (ps := ["_law_script"]) fun _ _ _ _ _ _ us hl => match us, hl with | [_], _ => rfl
  have D_law_bag : Dfn K mg "_law_bag" s__law_bag ["_law_script"] := ⟨_, _, F_law_bag, PySem.W.mg_of X G a_law_bag, b_law_bag⟩
  have F_law_pick := fun_mk (st := s__law_pick) l_law_pick c_law_pick k_law_pick
  have b_law_pick := F_law_pick.binds (ps := ["_law_bag_here", "_law_many"]) fun _ _ _ _ _ _ us hl => match us, hl with | [_, _], _ => rfl
  have D_law_pick : Dfn K mg "_law_pick" s__law_pick ["_law_bag_here", "_law_many"] := ⟨_, _, F_law_pick, PySem.W.mg_of X G a_law_pick, b_law_pick⟩
  have F_law_name := fun_mk (st := s__law_name) l_law_name c_law_name k_law_name
  have b_law_name := F_law_name.binds (ps := ["_law_bag_here", "_law_taken"]) fun _ _ _ _ _ _ us hl => match us, hl with | [_, _], _ => rfl
  have D_law_name : Dfn K mg "_law_name" s__law_name ["_law_bag_here", "_law_taken"] := ⟨_, _, F_law_name, PySem.W.mg_of X G a_law_name, b_law_name⟩
  have F_law_tables := fun_mk (st := s__law_tables) l_law_tables c_law_tables k_law_tables
  have b_law_tables := F_law_tables.binds (ps := ["_law_bag_here"]) fun _ _ _ _ _ _ us hl => match us, hl with | [_], _ => rfl
  have D_law_tables : Dfn K mg "_law_tables" s__law_tables ["_law_bag_here"] := ⟨_, _, F_law_tables, PySem.W.mg_of X G a_law_tables, b_law_tables⟩
  have F_law_copied := fun_mk (st := s__law_copied) l_law_copied c_law_copied k_law_copied
  have b_law_copied := F_law_copied.binds (ps := ["_law_thing"]) fun _ _ _ _ _ _ us hl => match us, hl with | [_], _ => rfl
  have D_law_copied : Dfn K mg "_law_copied" s__law_copied ["_law_thing"] := ⟨_, _, F_law_copied, PySem.W.mg_of X G a_law_copied, b_law_copied⟩
  have F_law_alike := fun_mk (st := s__law_alike) l_law_alike c_law_alike k_law_alike
  have b_law_alike := F_law_alike.binds (ps := ["_law_one", "_law_other"]) fun _ _ _ _ _ _ us hl => match us, hl with | [_, _], _ => rfl
  have D_law_alike : Dfn K mg "_law_alike" s__law_alike ["_law_one", "_law_other"] := ⟨_, _, F_law_alike, PySem.W.mg_of X G a_law_alike, b_law_alike⟩
  have F_law_odd := fun_mk (st := s__law_odd) l_law_odd c_law_odd k_law_odd
  have b_law_odd := F_law_odd.binds (ps := ["_law_bag_here"]) fun _ _ _ _ _ _ us hl => match us, hl with | [_], _ => rfl
  have D_law_odd : Dfn K mg "_law_odd" s__law_odd ["_law_bag_here"] := ⟨_, _, F_law_odd, PySem.W.mg_of X G a_law_odd, b_law_odd⟩
  have F_law_handed := fun_mk (st := s__law_handed) l_law_handed c_law_handed k_law_handed
  have b_law_handed := F_law_handed.binds (ps := ["_law_bag_here", "_law_tables_here"]) fun _ _ _ _ _ _ us hl => match us, hl with | [_, _], _ => rfl
  have D_law_handed : Dfn K mg "_law_handed" s__law_handed ["_law_bag_here", "_law_tables_here"] := ⟨_, _, F_law_handed, PySem.W.mg_of X G a_law_handed, b_law_handed⟩
  have F_law_tells := fun_mk (st := s__law_tells) l_law_tells c_law_tells k_law_tells
  have b_law_tells := F_law_tells.binds (ps := ["_law_shape", "_law_tables_here"]) fun _ _ _ _ _ _ us hl => match us, hl with | [_, _], _ => rfl
  have D_law_tells : Dfn K mg "_law_tells" s__law_tells ["_law_shape", "_law_tables_here"] := ⟨_, _, F_law_tells, PySem.W.mg_of X G a_law_tells, b_law_tells⟩
  have F_law_changed := fun_mk (st := s__law_changed) l_law_changed c_law_changed k_law_changed
  have b_law_changed := F_law_changed.binds (ps := ["_law_bag_here", "_law_tables_here"]) fun _ _ _ _ _ _ us hl => match us, hl with | [_, _], _ => rfl
  have D_law_changed : Dfn K mg "_law_changed" s__law_changed ["_law_bag_here", "_law_tables_here"] := ⟨_, _, F_law_changed, PySem.W.mg_of X G a_law_changed, b_law_changed⟩
  have F_Shape_init := fun_mk (st := s_Shape_init) l_Shape_init c_Shape_init k_Shape_init
  have b_Shape_init := F_Shape_init.binds (ps := ["self", "tables"]) fun _ _ _ _ _ _ us hl => match us, hl with | [_, _], _ => rfl
  have M_Shape_init : Meth K C_Shape "__init__" f_Shape_init := ⟨a_Shape_init, i_Shape_init, k_Shape_init⟩
  have F_Shape_eq := fun_mk (st := s_Shape_eq) l_Shape_eq c_Shape_eq k_Shape_eq
  have b_Shape_eq := F_Shape_eq.binds (ps := ["self", "other"]) fun _ _ _ _ _ _ us hl => match us, hl with | [_, _], _ => rfl
  have M_Shape_eq : Meth K C_Shape "__eq__" f_Shape_eq := ⟨a_Shape_eq, i_Shape_eq, k_Shape_eq⟩
  have F_Shape_fields_of := fun_mk (st := s_Shape_fields_of) l_Shape_fields_of c_Shape_fields_of k_Shape_fields_of
  have b_Shape_fields_of := F_Shape_fields_of.binds (ps := ["self", "name"]) fun _ _ _ _ _ _ us hl => match us, hl with | [_, _], _ => rfl
  have M_Shape_fields_of : Meth K C_Shape "fields_of" f_Shape_fields_of := ⟨a_Shape_fields_of, i_Shape_fields_of, k_Shape_fields_of⟩
  have CL_Shape : Cls K C_Shape := ⟨pg_Shape, hd_Shape, po_Shape, sa_Shape⟩
  have XX_Shape : InsX K C_Shape := ⟨CL_Shape, ha_Shape, hn_Shape, ht_Shape, hm_Shape, by simp only [List.mem_cons, List.not_mem_nil, or_false, forall_eq_or_imp, forall_eq]; exact ⟨kt_Shape_NoneType, kt_Shape_bool, kt_Shape_int, kt_Shape_str, kt_Shape_list, kt_Shape_tuple, kt_Shape_dict⟩⟩
  have YY_Shape : EqX K C_Shape := ⟨by simp only [List.mem_cons, List.not_mem_nil, or_false, forall_eq_or_imp, forall_eq]; exact ⟨nf_Shape_NoneType, nf_Shape_bool, nf_Shape_int, nf_Shape_str, nf_Shape_list, nf_Shape_tuple, nf_Shape_dict⟩⟩
  have F_BadShape_init := fun_mk (st := s_BadShape_init) l_BadShape_init c_BadShape_init k_BadShape_init
  have b_BadShape_init := F_BadShape_init.binds (ps := ["self", "at"]) fun _ _ _ _ _ _ us hl => match us, hl with | [_, _], _ => rfl
  have O_BadShape : OexC K C_BadShape := ⟨⟨_, _, _, _, _, _, _, _, _, _, _, _, _, _, _, x_BadShape, (by show PySem.HandSPX.refsVE [.type "ValueError", .type "Exception", .type "BaseException", .type "object"] = true; decide +kernel)⟩, s_BadShape, e_BadShape, ty_BadShape, kk_BadShape⟩
  have ER_BadShape : ∀ base, Err l.prog w K mg base "BadShape" "at" C_BadShape := fun base => ⟨O_BadShape, PySem.W.mg_of X G m_BadShape, ⟨_, _, a_BadShape_init, t_BadShape_init, ok_BadShape_init F_BadShape_init O_BadShape no_BadShape, b_BadShape_init⟩, no_BadShape, ⟨ga_BadShape, gg_BadShape, e_BadShape, hd_BadShape⟩⟩
  have F_BadName_init := fun_mk (st := s_BadName_init) l_BadName_init c_BadName_init k_BadName_init
  have b_BadName_init := F_BadName_init.binds (ps := ["self", "value"]) fun _ _ _ _ _ _ us hl => match us, hl with | [_, _], _ => rfl
  have O_BadName : OexC K C_BadName := ⟨⟨_, _, _, _, _, _, _, _, _, _, _, _, _, _, _, x_BadName, (by show PySem.HandSPX.refsVE [.type "ValueError", .type "Exception", .type "BaseException", .type "object"] = true; decide +kernel)⟩, s_BadName, e_BadName, ty_BadName, kk_BadName⟩
  have ER_BadName : ∀ base, Err l.prog w K mg base "BadName" "value" C_BadName := fun base => ⟨O_BadName, PySem.W.mg_of X G m_BadName, ⟨_, _, a_BadName_init, t_BadName_init, ok_BadName_init F_BadName_init O_BadName no_BadName, b_BadName_init⟩, no_BadName, ⟨ga_BadName, gg_BadName, e_BadName, hd_BadName⟩⟩
  have F_law := fun_mk (st := s_law) l_law c_law k_law
  refine ⟨PySem.W.fnOf "law" "law" (defArgs s_law) (defBody s_law) (defScope s_law) .none kV_law dc_law pm_law an_law cd_law ct_law, fun s v => .of_eq rfl, fun base _ _ => ?_⟩
  have T : ShCls K mg C_Shape := ⟨CL_Shape, na_Shape_tables, PySem.W.mg_of X G m_Shape⟩
  have G_is_row : ∀ base, Has l.prog w K mg base CX0 "is_row" ["thing"] 1 spIsRow := fun base => ok_is_row B D_is_row
  have G_is_name : ∀ base, Has l.prog w K mg base CX0 "is_name" ["thing"] 1 spIsName := fun base => ok_is_name B N_LETTERS D_is_name
  have G_are_names : ∀ base, Has l.prog w K mg base CX0 "are_names" ["thing", "least", "most"] 2 spAreNames := fun base => ok_are_names B D_are_names (G_is_row base) (G_is_name base)
  have G_is_table : ∀ base, Has l.prog w K mg base CX0 "is_table" ["thing"] 3 spIsTable := fun base => ok_is_table B D_is_table (G_is_name base) (G_are_names base)
  have GI : FnOk l.prog w K mg base (L2.CX l.prog w) 4 f_Shape_init _ ["self", "tables"] (spShapeI C_Shape C_BadShape) := ok_shape_init B F_Shape_init T ER_BadShape G_is_row G_is_table
  have GE : FnOk l.prog w K mg base CX0 1 f_Shape_eq _ ["self", "other"] (spShEq C_Shape) := ok_shape_eq B F_Shape_eq T XX_Shape
  have GF : FnOk l.prog w K mg base (L2.CX l.prog w) 3 f_Shape_fields_of _ ["self", "name"] (spFields C_Shape C_BadName) := ok_fields_of B F_Shape_fields_of T ER_BadName
  have G_pick : Has l.prog w K mg base CX0 "_law_pick" ["_law_bag_here", "_law_many"] 1 spPick := ok_pick B D_law_pick
  have G_name : Has l.prog w K mg base CX0 "_law_name" ["_law_bag_here", "_law_taken"] 2 spName := ok_name B D_law_name G_pick
  have G_alike : Has l.prog w K mg base CX0 "_law_alike" ["_law_one", "_law_other"] 4 (spAlike 3) := ok_alike B D_law_alike 3
  exact ok_law B F_law T XX_Shape YY_Shape ⟨mk_Shape, a_Shape_init, i_Shape_init, kc_Shape⟩ GI b_Shape_init GE b_Shape_eq ⟨a_Shape_eq, i_Shape_eq, ne_Shape, ob_Shape⟩ (ok_bag B D_law_bag) (ok_tables B D_law_tables G_pick G_name) (ok_handed B D_law_handed G_pick) (ok_copied B D_law_copied 3) G_alike (ok_tells B D_law_tells T GF b_Shape_fields_of M_Shape_fields_of G_alike) (ok_changed B D_law_changed G_pick G_name) (ok_odd B D_law_odd G_pick)
theorem walk {l : PySem.W.OpenLaw} {q : Program} {loose : List Str} {XP : (Str → Option Value) → Heap → Prop} {YP : World → Heap → Prop} {d : DefRec} {K : Params → PySem.W.Frag} (hn : l.most = some 63) (hdf : d.params.defaults = [])
    (hY : ∀ (w : World) (h : Heap), YP w h → (K w.params).In h)
    (F : ∀ (w : World) (mg : Str → Option Value) (fa : Addr) (h : Heap), (K w.params).In h → h.Ns mainGlobals mg → mg d.name = some (.ref fa) →
      ∃ fd : FuncData, (∀ (s : Shared) (u : Value), BindsTo s fd ⟨[u], []⟩ [("_law_script", u)]) ∧ ∀ base : Heap, (K w.params).In base → base.Ns mainGlobals mg → FnOk l.prog w (K w.params) mg base CX0 7 fa fd ["_law_script"] (spLaw (K w.params))) :
    PySem.W.WalkO q loose XP YP l.row.toRowW d [] (fun f vs => PySem.call f vs) :=
  L2.walk_of (n := 63) (k := 7) (x := "_law_script") (CX := fun _ => CX0) (sp := fun w => spLaw (K w.params)) hn (by decide) hdf ⟨rfl, by decide, by decide⟩ hY F (fun _ _ a ns hl _ hS => ⟨a, ns, rfl, hS, fun _ => rfl⟩) fun _ _ _ _ _ z => z
end Fm
open PySem PySem.W PyProof.Rows
set_option maxRecDepth 100000 in
set_option maxHeartbeats 0 in
theorem PySem.Challenge.cw_firstmet_k01_shapes_kept_holds : PySem.Challenge.rw_firstmet_k01_shapes_kept.Holds := by
  w_on; o_law; k_head; (case hw => w_witness2)
  k_fill
  refine Fm.walk (l := PySem.Challenge.rw_firstmet_k01_shapes_kept) rfl rfl (fun w h Y => PySem.W.kIn_of Y) ?F
  case F =>
    intro w mg fa h KX G hmg
    refine' Fm.all_mk KX G hmg ?z_len ?z_list ?z_tuple ?z_isinstance ?z_int ?z_range ?z_max ?z_all ?z_bool ?z_dict ?z_str ?z_enumerate ?n_LETTERS ?a_is_row ?l_is_row ?c_is_row ?k_is_row ?a_is_name ?l_is_name ?c_is_name ?k_is_name ?a_are_names ?l_are_names ?c_are_names ?k_are_names ?a_is_table ?l_is_table ?c_is_table ?k_is_table ?a_law_bag ?l_law_bag ?c_law_bag ?k_law_bag ?a_law_pick ?l_law_pick ?c_law_pick ?k_law_pick ?a_law_name ?l_law_name ?c_law_name ?k_law_name ?a_law_tables ?l_law_tables ?c_law_tables ?k_law_tables ?a_law_copied ?l_law_copied ?c_law_copied ?k_law_copied ?a_law_alike ?l_law_alike ?c_law_alike ?k_law_alike ?a_law_odd ?l_law_odd ?c_law_odd ?k_law_odd ?a_law_handed ?l_law_handed ?c_law_handed ?k_law_handed ?a_law_tells ?l_law_tells ?c_law_tells ?k_law_tells ?a_law_changed ?l_law_changed ?c_law_changed ?k_law_changed ?m_Shape ?a_Shape_init ?l_Shape_init ?c_Shape_init ?k_Shape_init ?i_Shape_init ?a_Shape_eq ?l_Shape_eq ?c_Shape_eq ?k_Shape_eq ?i_Shape_eq ?a_Shape_fields_of ?l_Shape_fields_of ?c_Shape_fields_of ?k_Shape_fields_of ?i_Shape_fields_of ?pg_Shape ?hd_Shape ?po_Shape ?sa_Shape ?mk_Shape ?kc_Shape ?na_Shape_tables ?ha_Shape ?hn_Shape ?ht_Shape ?hm_Shape ?ne_Shape ?ob_Shape ?kt_Shape_NoneType ?nf_Shape_NoneType ?kt_Shape_bool ?nf_Shape_bool ?kt_Shape_int ?nf_Shape_int ?kt_Shape_str ?nf_Shape_str ?kt_Shape_list ?nf_Shape_list ?kt_Shape_tuple ?nf_Shape_tuple ?kt_Shape_dict ?nf_Shape_dict ?m_BadShape ?x_BadShape ?s_BadShape ?ga_BadShape ?gg_BadShape ?no_BadShape ?a_BadShape_init ?l_BadShape_init ?c_BadShape_init ?k_BadShape_init ?t_BadShape_init ?e_BadShape ?ty_BadShape ?kk_BadShape ?hd_BadShape ?m_BadName ?x_BadName ?s_BadName ?ga_BadName ?gg_BadName ?no_BadName ?a_BadName_init ?l_BadName_init ?c_BadName_init ?k_BadName_init ?t_BadName_init ?e_BadName ?ty_BadName ?kk_BadName ?hd_BadName ?a_law ?l_law ?c_law ?k_law
    (case z_len => k_is)
    (case z_list => k_is)
    (case z_tuple => k_is)
    (case z_isinstance => k_is)
    (case z_int => k_is)
    (case z_range => k_is)
    (case z_max => k_is)
    (case z_all => k_is)
    (case z_bool => k_is)
    (case z_dict => k_is)
    (case z_str => k_is)
    (case z_enumerate => k_is)
    (case n_LETTERS => k_is)
    (case a_is_row => k_is)
    (case l_is_row => k_is)
    (case c_is_row => k_is)
    (case k_is_row => k_is)
    (case a_is_name => k_is)
    (case l_is_name => k_is)
    (case c_is_name => k_is)
    (case k_is_name => k_is)
    (case a_are_names => k_is)
    (case l_are_names => k_is)
    (case c_are_names => k_is)
    (case k_are_names => k_is)
    (case a_is_table => k_is)
    (case l_is_table => k_is)
    (case c_is_table => k_is)
    (case k_is_table => k_is)
    (case a_law_bag => k_is)
    (case l_law_bag => k_is)
    (case c_law_bag => k_is)
    (case k_law_bag => k_is)
    (case a_law_pick => k_is)
    (case l_law_pick => k_is)
    (case c_law_pick => k_is)
    (case k_law_pick => k_is)
    (case a_law_name => k_is)
    (case l_law_name => k_is)
    (case c_law_name => k_is)
    (case k_law_name => k_is)
    (case a_law_tables => k_is)
    (case l_law_tables => k_is)
    (case c_law_tables => k_is)
    (case k_law_tables => k_is)
    (case a_law_copied => k_is)
    (case l_law_copied => k_is)
    (case c_law_copied => k_is)
    (case k_law_copied => k_is)
    (case a_law_alike => k_is)
    (case l_law_alike => k_is)
    (case c_law_alike => k_is)
    (case k_law_alike => k_is)
    (case a_law_odd => k_is)
    (case l_law_odd => k_is)
    (case c_law_odd => k_is)
    (case k_law_odd => k_is)
    (case a_law_handed => k_is)
    (case l_law_handed => k_is)
    (case c_law_handed => k_is)
    (case k_law_handed => k_is)
    (case a_law_tells => k_is)
    (case l_law_tells => k_is)
    (case c_law_tells => k_is)
    (case k_law_tells => k_is)
    (case a_law_changed => k_is)
    (case l_law_changed => k_is)
    (case c_law_changed => k_is)
    (case k_law_changed => k_is)
    (case m_Shape => k_is)
    (case a_Shape_init => k_is)
    (case l_Shape_init => k_is)
    (case c_Shape_init => k_is)
    (case k_Shape_init => k_is)
    (case i_Shape_init => k_is)
    (case a_Shape_eq => k_is)
    (case l_Shape_eq => k_is)
    (case c_Shape_eq => k_is)
    (case k_Shape_eq => k_is)
    (case i_Shape_eq => k_is)
    (case a_Shape_fields_of => k_is)
    (case l_Shape_fields_of => k_is)
    (case c_Shape_fields_of => k_is)
    (case k_Shape_fields_of => k_is)
    (case i_Shape_fields_of => k_is)
    (case pg_Shape => k_is)
    (case hd_Shape => k_is)
    (case po_Shape => k_is)
    (case sa_Shape => k_is)
    (case mk_Shape => k_is)
    (case kc_Shape => k_is)
    (case na_Shape_tables => k_is)
    (case ha_Shape => k_is)
    (case hn_Shape => k_is)
    (case ht_Shape => k_is)
    (case hm_Shape => k_is)
    (case ne_Shape => k_is)
    (case ob_Shape => k_is)
    (case kt_Shape_NoneType => (first | kit_is | rfl | kernel_rfl))
    (case nf_Shape_NoneType => k_is)
    (case kt_Shape_bool => (first | kit_is | rfl | kernel_rfl))
    (case nf_Shape_bool => k_is)
    (case kt_Shape_int => (first | kit_is | rfl | kernel_rfl))
    (case nf_Shape_int => k_is)
    (case kt_Shape_str => (first | kit_is | rfl | kernel_rfl))
    (case nf_Shape_str => k_is)
    (case kt_Shape_list => (first | kit_is | rfl | kernel_rfl))
    (case nf_Shape_list => k_is)
    (case kt_Shape_tuple => (first | kit_is | rfl | kernel_rfl))
    (case nf_Shape_tuple => k_is)
    (case kt_Shape_dict => (first | kit_is | rfl | kernel_rfl))
    (case nf_Shape_dict => k_is)
    (case m_BadShape => k_is)
    (case x_BadShape => k_is)
    (case s_BadShape => k_is)
    (case ga_BadShape => k_is)
    (case gg_BadShape => k_is)
    (case no_BadShape => k_is)
    (case a_BadShape_init => k_is)
    (case l_BadShape_init => k_is)
    (case c_BadShape_init => k_is)
    (case k_BadShape_init => k_is)
    (case t_BadShape_init => k_is)
    (case e_BadShape => k_is)
    (case ty_BadShape => k_is)
    (case kk_BadShape => k_is)
    (case hd_BadShape => k_is)
    (case m_BadName => k_is)
    (case x_BadName => k_is)
    (case s_BadName => k_is)
    (case ga_BadName => k_is)
    (case gg_BadName => k_is)
    (case no_BadName => k_is)
    (case a_BadName_init => k_is)
    (case l_BadName_init => k_is)
    (case c_BadName_init => k_is)
    (case k_BadName_init => k_is)
    (case t_BadName_init => k_is)
    (case e_BadName => k_is)
    (case ty_BadName => k_is)
    (case kk_BadName => k_is)
    (case hd_BadName => k_is)
    (case a_law => k_is)
    (case l_law => k_is)
    (case c_law => k_is)
    (case k_law => k_is)
