import PyProof.Rows.All
import Wide.All
import OpenK.AllK
import Wide.FinOn
import HandS.ForMost
import HandS.ForExc
import HandS.Codes
import HandS.IsInst
import HandS.Flow
import HandS.Walk
import HandS.Conv
import HandS.EndBits
import HandS.ExcInit
import HandS.ExcField
import HandS.MakeKwOnly
import KE.KExcIs
import HandS.ExcIs
import KE.RegKIsAll
import PySem.Challenge.RW_firstmet_k00_errors
set_option Elab.async false
set_option linter.all false
set_option maxRecDepth 100000
set_option maxHeartbeats 8000000
/-! Firstmet: short words over the hand layer: a def by its name, heaps that keep what stood, data. -/
namespace Fm
open PySem PySem.Spec PyProof.Rows L2
/-! ### a def of the top, by its name -/
def Dfn (K : PySem.W.Frag) (mg : Str → Option Value) (x : Str) (st : Stmt) (ps : List Str) : Prop :=
  ∃ f fd, Fun K x x st f fd ∧ mg x = some (.ref f) ∧ Binds K fd ps []
def Has (P : Program) (w : World) (K : PySem.W.Frag) (mg : Str → Option Value) (base : Heap) (CX : CXT) (x : Str) (ps : List Str) (k : Nat) (sp : Sp) : Prop :=
  ∃ f fd, FnOk P w K mg base CX k f fd ps sp ∧ mg x = some (.ref f) ∧ PySem.W.keepIn K (.ref f) = true ∧ Binds K fd ps []
section
variable {P : Program} {w : World} {K : PySem.W.Frag} {mg : Str → Option Value} {base : Heap}
theorem Dfn.has {x : Str} {st : Stmt} {N ps : List Str} {k : Nat} {sp : Sp} (D : Dfn K mg x st ps) (S : FnScope N ps (defScope st)) (len : ∀ vs H Q E, sp vs H Q E → vs.length = ps.length)
    (body : ∀ (f : Addr) (cdv : Value) (A : Around) (outer : List Env) (s : Shared) (H : Hp) (vs : List V) (Q : VK) (E : XK), Room k (A.deeper (envOfC x (defScope st) s.heap.objs.size f cdv)) → sp vs H Q E →
      ∃ t, PSs (cxOf CX0 P w K mg base N x (defScope st) f cdv A outer s H E).nox (defBody st) t ∧ t { nx := fun _ H' => Q .non H', rt := Q } (start N vs) H) :
    Has P w K mg base CX0 x ps (k + 1) sp := by
  obtain ⟨f, fd, F, g, b⟩ := D
  exact ⟨f, fd, F.ok S len (fun cdv A outer s H vs Q E => body f cdv A outer s H vs Q E), g, F.kp, b⟩
theorem Dfn.hasX {x : Str} {st : Stmt} {N ps : List Str} {k : Nat} {sp : Sp} (D : Dfn K mg x st ps) (S : FnScope N ps (defScope st)) (len : ∀ vs H Q E, sp vs H Q E → vs.length = ps.length)
    (body : ∀ (f : Addr) (cdv : Value) (A : Around) (outer : List Env) (s : Shared) (H : Hp) (vs : List V) (Q : VK) (E : XK), Room k (A.deeper (envOfC x (defScope st) s.heap.objs.size f cdv)) → sp vs H Q E →
      ∃ t, PSs (cxOf (L2.CX P w) P w K mg base N x (defScope st) f cdv A outer s H E) (defBody st) t ∧ t { nx := fun _ H' => Q .non H', rt := Q } (start N vs) H) :
    Has P w K mg base (L2.CX P w) x ps (k + 1) sp := by
  obtain ⟨f, fd, F, g, b⟩ := D
  exact ⟨f, fd, F.okX S len (fun cdv A outer s H vs Q E => body f cdv A outer s H vs Q E), g, F.kp, b⟩
theorem Has.mono {CX : CXT} {x : Str} {ps : List Str} {j k : Nat} {sp : Sp} (h : Has P w K mg base CX x ps j sp) (hj : j ≤ k) : Has P w K mg base CX x ps k sp := by
  obtain ⟨f, fd, F, r⟩ := h
  exact ⟨f, fd, F.mono hj, r⟩
theorem Has.imp {CX : CXT} {x : Str} {ps : List Str} {k : Nat} {sp sp' : Sp} (h : Has P w K mg base CX x ps k sp) (i : ∀ vs H Q E, sp' vs H Q E → sp vs H Q E) : Has P w K mg base CX x ps k sp' := by
  obtain ⟨f, fd, F, r⟩ := h
  exact ⟨f, fd, F.imp i, r⟩
end
/-- f(e, ..), f a def that raises nothing -/
theorem pe_has {X : Cx} {k : Nat} {x : Str} {ps : List Str} {sp : Sp} {e : Expr} {es : List Expr} {t : TA} {p pos : Pos} (h : Has X.prog X.w X.K X.mg X.base CX0 x ps k sp) (hr : Room k X.A) (ha : PA X (e :: es) t) (hg : Gl X x := by rfl)
    (hdb : (x == ("__debug__" : Str)) = false := by decide) (he : starEach (e :: es) X.env = (false, eval e X.env) :: starEach es X.env := by rfl) (hpl : (backTo pos (starEach es X.env)).any (·.1) = false := by rfl) :
    PE X (.Call (.Name x p) (e :: es) [] pos) (tCall sp [] E0 t) := by
  obtain ⟨f, fd, F, g, kp, b⟩ := h
  exact pe_call F hr hg g kp b .nil pass0 ha hdb he hpl
/-! ### heaps -/
/-- all that stood stands, but for what is at ms; tuples stand in any case -/
structure Kp (ms : List Addr) (H H' : Hp) : Prop where
  at_ : ∀ a o, H a = some o → a ∉ ms → H' a = some o
  tp : ∀ a xs, H a = some (.tup xs) → H' a = some (.tup xs)
theorem Kp.refl {ms : List Addr} (H : Hp) : Kp ms H H := ⟨fun _ _ h _ => h, fun _ _ h => h⟩
theorem Kp.trans {ms : List Addr} {H H1 H2 : Hp} (a : Kp ms H H1) (b : Kp ms H1 H2) : Kp ms H H2 := ⟨fun c o h n => b.at_ c o (a.at_ c o h n) n, fun c xs h => b.tp c xs (a.tp c xs h)⟩
theorem Kp.mono {ms ms' : List Addr} {H H' : Hp} (a : Kp ms H H') (h : ∀ x ∈ ms, x ∈ ms') : Kp ms' H H' := ⟨fun c o e n => a.at_ c o e fun z => n (h c z), a.tp⟩
theorem Kp.zero {ms : List Addr} {H H' : Hp} (a : Kp [] H H') : Kp ms H H' := a.mono fun _ h => nomatch h
theorem Kp.same {H H' : Hp} (a : Kp [] H H') : Same H H' := fun b o e => a.at_ b o e (fun z => nomatch z)
theorem Kp.new {ms : List Addr} {H : Hp} {p : Addr} {o : HO} (h : H p = none) : Kp ms H (upd H p o) :=
  ⟨fun _ _ e _ => (upd_ne (ne_of_none e h)).trans e, fun _ _ e => (upd_ne (ne_of_none e h)).trans e⟩
theorem Kp.snoc {ms : List Addr} {H H' : Hp} {p : Addr} {o : HO} (a : Kp ms H H') (h : H' p = none) : Kp ms H (upd H' p o) := a.trans (Kp.new h)
theorem Kp.late {ms : List Addr} {H H' : Hp} {p : Addr} {o : HO} (a : Kp ms H H') (h : H p = none) : Kp ms H (L2.upd H' p o) :=
  ⟨fun b u e n => (upd_ne (ne_of_none e h)).trans (a.at_ b u e n), fun b xs e => (upd_ne (ne_of_none e h)).trans (a.tp b xs e)⟩
theorem Kp.set {ms : List Addr} {H : Hp} {p : Addr} {o o' : HO} (e : H p = some o) (hn : ∀ xs, o ≠ .tup xs) (hm : p ∈ ms) : Kp ms H (upd H p o') :=
  ⟨fun b u h n => (upd_ne (fun z => n (by rw [z]; exact hm))).trans h, fun b xs h => (upd_ne (fun z => by rw [z, e] at h; exact hn xs (Option.some.inj h))).trans h⟩
theorem Kp.updL {ms : List Addr} {H : Hp} {p : Addr} {ys : List V} {o' : HO} (e : H p = some (.lst ys)) (hm : p ∈ ms) : Kp ms H (L2.upd H p o') := Kp.set e (fun _ z => by cases z) hm
theorem Kp.free {ms : List Addr} {H H' : Hp} {p : Addr} (a : Kp ms H H') (h : H' p = Option.none) (hm : ∀ x ∈ ms, ∃ o, H' x = some o) : H p = Option.none := by
  cases e : H p with
  | none => rfl
  | some o =>
    by_cases z : p ∈ ms
    · obtain ⟨o', h'⟩ := hm p z
      rw [h'] at h
      cases h
    · rw [a.at_ p o e z] at h
      cases h
theorem upd_upd {H : Hp} {a : Addr} {o o' : HO} : upd (upd H a o) a o' = upd H a o' := by
  funext b
  by_cases z : b = a
  · rw [z, upd_same, upd_same]
  · rw [upd_ne z, upd_ne z, upd_ne z]
theorem upd_comm {H : Hp} {a b : Addr} {o u : HO} (n : a ≠ b) : upd (upd H a o) b u = upd (upd H b u) a o := by
  funext c
  by_cases z : c = a
  · rw [z, upd_ne n, upd_same, upd_same]
  · by_cases y : c = b
    · rw [y, upd_same, upd_ne (Ne.symm n), upd_same]
    · rw [upd_ne y, upd_ne z, upd_ne z, upd_ne y]
/-! ### names of the built-ins -/
structure Bi (mg : Str → Option Value) : Prop where
  len : mg "len" = none
  list : mg "list" = none
  tuple : mg "tuple" = none
  isinstance : mg "isinstance" = none
  int : mg "int" = none
  range : mg "range" = none
  max : mg "max" = none
  all : mg "all" = none
  bool : mg "bool" = none
  dict : mg "dict" = none
  str : mg "str" = none
  enumerate : mg "enumerate" = none
/-! ### the bag of draws -/
structure Bag (H : Hp) (b c : Addr) : Prop where
  bg : ∃ i z m n k : Int, H b = some (.lst [.ref c, .int i, .int z, .int m, .int n, .int k]) ∧ 0 ≤ i ∧ 0 ≤ z
  cl : ∃ cs : List Int, H c = some (.lst (cs.map V.int)) ∧ cs.length ≤ 63
theorem Bag.ne {H : Hp} {b c : Addr} (B : Bag H b c) : c ≠ b := fun z => by
  obtain ⟨⟨i, z', m, n, k, h, _⟩, ⟨cs, h2, _⟩⟩ := B
  rw [z, h] at h2
  cases cs with
  | nil => cases h2
  | cons x r => cases h2
theorem Bag.keep {H H' : Hp} {b c : Addr} {ms : List Addr} (B : Bag H b c) (k : Kp ms H H') (hb : b ∉ ms) (hc : c ∉ ms) : Bag H' b c := by
  obtain ⟨⟨i, z', m, n, k', h, hi⟩, ⟨cs, h2, hl⟩⟩ := B
  exact ⟨⟨i, z', m, n, k', k.at_ _ _ h hb, hi⟩, ⟨cs, k.at_ _ _ h2 hc, hl⟩⟩
theorem Bag.keep0 {H H' : Hp} {b c : Addr} (B : Bag H b c) (k : Kp [] H H') : Bag H' b c := B.keep k (fun z => nomatch z) (fun z => nomatch z)
theorem Bag.someB {H : Hp} {b c : Addr} (B : Bag H b c) : ∃ o, H b = some o := let ⟨_, _, _, _, _, h, _⟩ := B.bg; ⟨_, h⟩
theorem Bag.someC {H : Hp} {b c : Addr} (B : Bag H b c) : ∃ o, H c = some o := let ⟨_, h, _⟩ := B.cl; ⟨_, h⟩
theorem Kp.freeB {H H' : Hp} {b c p : Addr} (a : Kp [b] H H') (B : Bag H' b c) (h : H' p = Option.none) : H p = Option.none :=
  a.free h fun x hx => by
    have e : x = b := by simpa using hx
    rw [e]; exact B.someB
end Fm

namespace Fm
open PySem PySem.Spec PyProof.Rows L2
def topS (i : Nat) : Stmt := PySem.Challenge.pw_firstmet_k00_errors.main.body.getD i (.Pass ⟨0, 0, 0, 0⟩)
abbrev s_BadShape_init : Stmt := inClass (topS 2) 0
abbrev N_BadShape_init : List Str := ["self", "at"]
theorem sc_BadShape_init : FnScope ["self", "at"] ["self", "at"] (defScope s_BadShape_init) := ⟨rfl, rfl, rfl, by decide +kernel, rfl, by decide +kernel, by decide +kernel⟩
abbrev s_BadName_init : Stmt := inClass (topS 3) 0
abbrev N_BadName_init : List Str := ["self", "value"]
theorem sc_BadName_init : FnScope ["self", "value"] ["self", "value"] (defScope s_BadName_init) := ⟨rfl, rfl, rfl, by decide +kernel, rfl, by decide +kernel, by decide +kernel⟩
abbrev s_BadStore_init : Stmt := inClass (topS 4) 0
abbrev N_BadStore_init : List Str := ["self", "value"]
theorem sc_BadStore_init : FnScope ["self", "value"] ["self", "value"] (defScope s_BadStore_init) := ⟨rfl, rfl, rfl, by decide +kernel, rfl, by decide +kernel, by decide +kernel⟩
abbrev s_BadRows_init : Stmt := inClass (topS 5) 0
abbrev N_BadRows_init : List Str := ["self", "value"]
theorem sc_BadRows_init : FnScope ["self", "value"] ["self", "value"] (defScope s_BadRows_init) := ⟨rfl, rfl, rfl, by decide +kernel, rfl, by decide +kernel, by decide +kernel⟩
abbrev s_BadIndex_init : Stmt := inClass (topS 6) 0
abbrev N_BadIndex_init : List Str := ["self", "value"]
theorem sc_BadIndex_init : FnScope ["self", "value"] ["self", "value"] (defScope s_BadIndex_init) := ⟨rfl, rfl, rfl, by decide +kernel, rfl, by decide +kernel, by decide +kernel⟩
abbrev s_BadBlock_init : Stmt := inClass (topS 7) 0
abbrev N_BadBlock_init : List Str := ["self", "at"]
theorem sc_BadBlock_init : FnScope ["self", "at"] ["self", "at"] (defScope s_BadBlock_init) := ⟨rfl, rfl, rfl, by decide +kernel, rfl, by decide +kernel, by decide +kernel⟩
abbrev s_BadProgram_init : Stmt := inClass (topS 8) 0
abbrev N_BadProgram_init : List Str := ["self", "value"]
theorem sc_BadProgram_init : FnScope ["self", "value"] ["self", "value"] (defScope s_BadProgram_init) := ⟨rfl, rfl, rfl, by decide +kernel, rfl, by decide +kernel, by decide +kernel⟩
abbrev s_BadPattern_init : Stmt := inClass (topS 9) 0
abbrev N_BadPattern_init : List Str := ["self", "at"]
theorem sc_BadPattern_init : FnScope ["self", "at"] ["self", "at"] (defScope s_BadPattern_init) := ⟨rfl, rfl, rfl, by decide +kernel, rfl, by decide +kernel, by decide +kernel⟩
abbrev s_BadPair_init : Stmt := inClass (topS 10) 0
abbrev N_BadPair_init : List Str := ["self", "value"]
theorem sc_BadPair_init : FnScope ["self", "value"] ["self", "value"] (defScope s_BadPair_init) := ⟨rfl, rfl, rfl, by decide +kernel, rfl, by decide +kernel, by decide +kernel⟩
abbrev s_BadMove_init : Stmt := inClass (topS 11) 0
abbrev N_BadMove_init : List Str := ["self", "value"]
theorem sc_BadMove_init : FnScope ["self", "value"] ["self", "value"] (defScope s_BadMove_init) := ⟨rfl, rfl, rfl, by decide +kernel, rfl, by decide +kernel, by decide +kernel⟩
abbrev s_BadAsk_init : Stmt := inClass (topS 12) 0
abbrev N_BadAsk_init : List Str := ["self", "at"]
theorem sc_BadAsk_init : FnScope ["self", "at"] ["self", "at"] (defScope s_BadAsk_init) := ⟨rfl, rfl, rfl, by decide +kernel, rfl, by decide +kernel, by decide +kernel⟩
abbrev s_BadAsks_init : Stmt := inClass (topS 13) 0
abbrev N_BadAsks_init : List Str := ["self", "value"]
theorem sc_BadAsks_init : FnScope ["self", "value"] ["self", "value"] (defScope s_BadAsks_init) := ⟨rfl, rfl, rfl, by decide +kernel, rfl, by decide +kernel, by decide +kernel⟩
abbrev s_BadPlan_init : Stmt := inClass (topS 14) 0
abbrev N_BadPlan_init : List Str := ["self", "value"]
theorem sc_BadPlan_init : FnScope ["self", "value"] ["self", "value"] (defScope s_BadPlan_init) := ⟨rfl, rfl, rfl, by decide +kernel, rfl, by decide +kernel, by decide +kernel⟩
abbrev s_BadCount_init : Stmt := inClass (topS 15) 0
abbrev N_BadCount_init : List Str := ["self", "value"]
theorem sc_BadCount_init : FnScope ["self", "value"] ["self", "value"] (defScope s_BadCount_init) := ⟨rfl, rfl, rfl, by decide +kernel, rfl, by decide +kernel, by decide +kernel⟩
abbrev s_BadText_init : Stmt := inClass (topS 16) 0
abbrev N_BadText_init : List Str := ["self", "at"]
theorem sc_BadText_init : FnScope ["self", "at"] ["self", "at"] (defScope s_BadText_init) := ⟨rfl, rfl, rfl, by decide +kernel, rfl, by decide +kernel, by decide +kernel⟩
abbrev s_NotPlain_init : Stmt := inClass (topS 17) 0
abbrev N_NotPlain_init : List Str := ["self", "at"]
theorem sc_NotPlain_init : FnScope ["self", "at"] ["self", "at"] (defScope s_NotPlain_init) := ⟨rfl, rfl, rfl, by decide +kernel, rfl, by decide +kernel, by decide +kernel⟩
abbrev s_Unlike_init : Stmt := inClass (topS 18) 0
abbrev N_Unlike_init : List Str := ["self", "value"]
theorem sc_Unlike_init : FnScope ["self", "value"] ["self", "value"] (defScope s_Unlike_init) := ⟨rfl, rfl, rfl, by decide +kernel, rfl, by decide +kernel, by decide +kernel⟩
abbrev s__law_bag : Stmt := topS 23
abbrev N__law_bag : List Str := ["_law_script"]
theorem sc__law_bag : FnScope ["_law_script"] ["_law_script"] (defScope s__law_bag) := ⟨rfl, rfl, rfl, by decide +kernel, rfl, by decide +kernel, by decide +kernel⟩
abbrev s__law_pick : Stmt := topS 24
abbrev N__law_pick : List Str := ["_law_bag_here", "_law_many", "_law_cell", "_law_found", "_law_one"]
theorem sc__law_pick : FnScope ["_law_bag_here", "_law_many", "_law_cell", "_law_found", "_law_one"] ["_law_bag_here", "_law_many"] (defScope s__law_pick) := ⟨rfl, rfl, rfl, by decide +kernel, rfl, by decide +kernel, by decide +kernel⟩
abbrev s__law_alike : Stmt := topS 25
abbrev N__law_alike : List Str := ["_law_one", "_law_other", "_law_k", "_law_key"]
theorem sc__law_alike : FnScope ["_law_one", "_law_other", "_law_k", "_law_key"] ["_law_one", "_law_other"] (defScope s__law_alike) := ⟨rfl, rfl, rfl, by decide +kernel, rfl, by decide +kernel, by decide +kernel⟩
abbrev s__law_odd : Stmt := topS 26
abbrev N__law_odd : List Str := ["_law_bag_here", "_law_number", "_law_odd_here"]
theorem sc__law_odd : FnScope ["_law_bag_here", "_law_number", "_law_odd_here"] ["_law_bag_here"] (defScope s__law_odd) := ⟨rfl, rfl, rfl, by decide +kernel, rfl, by decide +kernel, by decide +kernel⟩
abbrev s__law_raise : Stmt := topS 27
abbrev N__law_raise : List Str := ["_law_which", "_law_thing"]
theorem sc__law_raise : FnScope ["_law_which", "_law_thing"] ["_law_which", "_law_thing"] (defScope s__law_raise) := ⟨rfl, rfl, rfl, by decide +kernel, rfl, by decide +kernel, by decide +kernel⟩
abbrev s__law_raise_named : Stmt := topS 28
abbrev N__law_raise_named : List Str := ["_law_which", "_law_thing"]
theorem sc__law_raise_named : FnScope ["_law_which", "_law_thing"] ["_law_which", "_law_thing"] (defScope s__law_raise_named) := ⟨rfl, rfl, rfl, by decide +kernel, rfl, by decide +kernel, by decide +kernel⟩
abbrev s__law_caught : Stmt := topS 29
abbrev N__law_caught : List Str := ["_law_which", "_law_thing", "_law_named", "_law_flags", "_law_others", "_law_kept", "e"]
theorem sc__law_caught : FnScope ["_law_which", "_law_thing", "_law_named", "_law_flags", "_law_others", "_law_kept", "e"] ["_law_which", "_law_thing", "_law_named"] (defScope s__law_caught) := ⟨rfl, rfl, rfl, by decide +kernel, rfl, by decide +kernel, by decide +kernel⟩
abbrev s_law : Stmt := topS 30
abbrev N_law : List Str := ["_law_script", "_law_bag_here", "_law_which", "_law_named", "_law_thing", "_law_flags", "_law_others", "_law_kept", "_law_k"]
theorem sc_law : FnScope ["_law_script", "_law_bag_here", "_law_which", "_law_named", "_law_thing", "_law_flags", "_law_others", "_law_kept", "_law_k"] ["_law_script"] (defScope s_law) := ⟨rfl, rfl, rfl, by decide +kernel, rfl, by decide +kernel, by decide +kernel⟩
end Fm

namespace Fm
open PySem PySem.Spec PyProof.Rows L2
/-! ### bag and pick -/
def spBag (K : PySem.W.Frag) : Sp := fun vs H Q _ => ∃ (a : Addr) (ns : List Int), vs = [.ref a] ∧ SqL K H a (ns.map V.int) ∧
  ∀ b c H', Kp [] H H' → H b = none → H c = none → Bag H' b c → Q (.ref b) H'
def spPick : Sp := fun vs H Q _ => ∃ (b c : Addr) (many : Int), vs = [.ref b, .int many] ∧ Bag H b c ∧ 0 < many ∧ many < 1073741824 ∧
  ∀ (r : Int) (H' : Hp), 0 ≤ r → r < many → Bag H' b c → Kp [b] H H' → Q (.int r) H'
section
variable {P : Program} {w : World} {K : PySem.W.Frag} {mg : Str → Option Value} {base : Heap}
theorem ok_bag (B : Bi mg) (D : Dfn K mg "_law_bag" s__law_bag ["_law_script"]) : Has P w K mg base CX0 "_law_bag" ["_law_script"] 1 (spBag K) := by
  refine D.has sc__law_bag (fun vs H Q E h => ?_) (fun f cdv A outer s H vs Q E hr h => ?_)
  · obtain ⟨a, ns, rfl, _⟩ := h; rfl
  · obtain ⟨a, ns, rfl, hS, k⟩ := h
    refine ⟨_, pss_one (ps_ret (pe_lst (pa_cons (pe_callTy call_list_of (by rfl) B.list (by decide +kernel) (pa_cons (pe_slice sl_list (pv 0) po_none (po_some pe_int)) pa_nil)) (pa_cons pe_int (pa_cons pe_int (pa_cons pe_int (pa_cons pe_int (pa_cons pe_int pa_nil)))))))), ?_⟩
    refine ⟨_, rfl, 63, rfl, a, _, rfl, hS, fun p np => ?_⟩
    refine ⟨p, _, rfl, .inl (SqL.of upd_same), fun c nc => ?_⟩
    refine ⟨by show 6 ≤ sizeLine; decide, fun b nb => ?_⟩
    obtain ⟨cs, e, hl⟩ : ∃ cs : List Int, cutV (ns.map V.int) none (some 63) = cs.map V.int ∧ cs.length ≤ 63 := by
      refine ⟨ns.take (min 63 ns.length), ?_, ?_⟩
      · have e1 : HT.sIx (ns.map V.int).length (ns.map V.int).length (some 63) = min 63 (ns.map V.int).length := HT.sIx_nat _ _ 63
        unfold cutV
        rw [e1, HT.sIx_none, List.drop_zero, Nat.sub_zero, List.length_map, List.map_take]
      · rw [List.length_take]; omega
    have n1 : H c = none := by
      have := nc
      by_cases z : c = p
      · rw [z]; exact np
      · rw [upd_ne z] at nc; exact nc
    have cb : c ≠ b := fun z => by rw [← z, upd_same] at nb; cases nb
    refine k b c _ (((Kp.new np).snoc nc).snoc nb) ?_ n1 ⟨⟨0, 0, 0, 0, 0, upd_same, by decide, by decide⟩, ⟨cs, ?_, hl⟩⟩
    · by_cases z : b = c
      · rw [z]; exact n1
      · rw [upd_ne z] at nb
        by_cases y : b = p
        · rw [y]; exact np
        · rw [upd_ne y] at nb; exact nb
    · rw [upd_ne cb, upd_same, e]
theorem emod_lt' {a n : Int} (h : 0 < n) : a % n < n := Int.emod_lt_of_pos a h
theorem ok_pick (B : Bi mg) (D : Dfn K mg "_law_pick" s__law_pick ["_law_bag_here", "_law_many"]) : Has P w K mg base CX0 "_law_pick" ["_law_bag_here", "_law_many"] 1 spPick := by
  refine D.has sc__law_pick (fun vs H Q E h => ?_) (fun f cdv A outer s H vs Q E hr h => ?_)
  · obtain ⟨b, c, m, rfl, _⟩ := h; rfl
  · obtain ⟨b, c, many, rfl, BG, m0, m1, k⟩ := h
    obtain ⟨⟨i, z, m, n, q, hb, hi, hz⟩, ⟨cs, hc, hl⟩⟩ := id BG
    have ncb := BG.ne
    have hu := hu_of hr
    refine ⟨_, (pss_cons (ps_asg (pe_op op_add (pe_ix ix_list (pv 0) pe_int (fun _ _ => rfl)) pe_int) (pg_sub (pv 0) pe_int set_list))
  (C8.pss_cut (ps_if (PW.pt (pw_and (pt_cmpR op_eq (pe_ix ix_list (pv 0) pe_int (fun _ _ => rfl)) pe_int (nomark _)) (pw_and (pt_cmpR op_eq (pe_ix ix_list (pv 0) pe_int (fun _ _ => rfl)) pe_int (nomark _)) (pw_and1 (pt_cmpR op_lt (pe_ix ix_list (pv 0) pe_int (fun _ _ => rfl)) (pe_callB call_len (by rfl) B.len PySem.boot_len (pa_cons (pe_ix ix_list (pv 0) pe_int (fun _ _ => rfl)) pa_nil)) (nomark _))))))
  (pss_cons (ps_set (i := 2) sc__law_pick.nd rfl (by first | exact Or.inl rfl | exact Or.inr rfl) (pe_ix ix_list (pe_ix ix_list (pv 0) pe_int (fun _ _ => rfl)) (pe_ix ix_list (pv 0) pe_int (fun _ _ => rfl)) (fun _ _ => rfl)))
  (pss_cons (ps_asg (pe_op op_add (pe_ix ix_list (pv 0) pe_int (fun _ _ => rfl)) pe_int) (pg_sub (pv 0) pe_int set_list))
  (pss_one (ps_if (pt_cmpR op_ge (pv 2) (pe_op op_pow pe_int pe_int) (nomark _))
  (pss_one (ps_asg (pv 2) (pg_sub (pv 0) pe_int set_list)))
  (pss_cons (ps_asg (pe_op op_mod (pe_callTy call_int1 (by rfl) B.int (by decide +kernel) (pa_cons (pe_op op_add (pe_op op_add (pe_op op_mul (pe_ix ix_list (pv 0) pe_int (fun _ _ => rfl)) pe_int) (pv 2)) pe_int) pa_nil)) pe_int) (pg_sub (pv 0) pe_int set_list))
  (pss_one (ps_asg pe_int (pg_sub (pv 0) pe_int set_list))))))))
  pss_nil)
  (C8.pss_cut (ps_if (pt_cmpR op_gt (pe_ix ix_list (pv 0) pe_int (fun _ _ => rfl)) pe_int (nomark _))
  (pss_cons (ps_set (i := 3) sc__law_pick.nd rfl (by first | exact Or.inl rfl | exact Or.inr rfl) (pe_op op_mod (pe_callTy call_int1 (by rfl) B.int (by decide +kernel) (pa_cons (pe_ix ix_list (pv 0) pe_int (fun _ _ => rfl)) pa_nil)) (pv 1)))
  (pss_cons (ps_asg (pe_op op_fdiv (pe_ix ix_list (pv 0) pe_int (fun _ _ => rfl)) (pv 1)) (pg_sub (pv 0) pe_int set_list))
  (pss_one (ps_ret (pv 3)))))
  pss_nil)
  (pss_cons (ps_asg (pe_callB (call_max2 rfl) (by rfl) B.max (by decide +kernel) (pa_cons pe_int (pa_cons (pe_op op_sub (pe_ix ix_list (pv 0) pe_int (fun _ _ => rfl)) pe_int) pa_nil))) (pg_sub (pv 0) pe_int set_list))
  (pss_cons (ps_set (i := 4) sc__law_pick.nd rfl (by first | exact Or.inl rfl | exact Or.inr rfl) (pe_op op_mod (pe_callTy call_int1 (by rfl) B.int (by decide +kernel) (pa_cons (pe_op op_mul (pe_op op_add (pe_op op_add (pe_ix ix_list (pv 0) pe_int (fun _ _ => rfl)) (pe_op op_mul pe_int (pe_ix ix_list (pv 0) pe_int (fun _ _ => rfl)))) pe_int) pe_int) pa_nil)) pe_int))
  (pss_cons (ps_set (i := 4) sc__law_pick.nd rfl (by first | exact Or.inl rfl | exact Or.inr rfl) (pe_op op_mod (pe_callTy call_int1 (by rfl) B.int (by decide +kernel) (pa_cons (pe_op op_mul (pv 4) (pe_op op_add (pe_op op_fdiv (pv 4) pe_int) pe_int)) pa_nil)) pe_int))
  (pss_cons (ps_set (i := 4) sc__law_pick.nd rfl (by first | exact Or.inl rfl | exact Or.inr rfl) (pe_op op_mod (pe_callTy call_int1 (by rfl) B.int (by decide +kernel) (pa_cons (pe_op op_mul (pv 4) (pe_op op_add (pe_op op_fdiv (pv 4) pe_int) pe_int)) pa_nil)) pe_int))
  (pss_one (ps_ret (pe_op op_mod (pe_callTy call_int1 (by rfl) B.int (by decide +kernel) (pa_cons (pe_op op_fdiv (pv 4) pe_int) pa_nil)) (pv 1))))))))))), ?_⟩
    -- bag[4] = bag[4] + 1
    refine ⟨_, rfl, b, _, _, _, rfl, rfl, SqL.of hb, rfl, _, _, rfl, rfl, _, rfl, b, _, _, _, rfl, rfl, hb, rfl, ?_⟩
    -- the join behind the first if
    refine ⟨fun σ H' => ∃ (i z m n q : Int) (v : Option V), σ = [some (.ref b), some (.int many), v, none, none] ∧ 0 ≤ i ∧ 0 ≤ z ∧ H' = upd H b (.lst [.ref c, .int i, .int z, .int m, .int n, .int q]), ?_, ?_⟩
    · have h1 : ∀ L, (upd H b L) b = some L := fun L => upd_same
      have hcc : ∀ L, (upd H b L) c = some (.lst (cs.map V.int)) := fun L => by rw [upd_ne ncb]; exact hc
      have fin : ∀ (n : Int), ∃ (i' z' m' n' q' : Int) (v : Option V), ([some (.ref b), some (.int many), none, none, none] : L2.St) = [some (.ref b), some (.int many), v, none, none] ∧ 0 ≤ i' ∧ 0 ≤ z' ∧ upd H b (.lst [.ref c, .int i, .int z, .int m, .int n, .int q]) = upd H b (.lst [.ref c, .int i', .int z', .int m', .int n', .int q']) := fun n => ⟨i, z, m, n, q, none, rfl, hi, hz, rfl⟩
      refine ⟨_, rfl, b, _, _, _, rfl, rfl, SqL.of upd_same, rfl, rfl, _, rfl, ?_⟩
      refine ite2 (fun hz0 => ?_) (fun _ => fin _)
      refine ⟨_, rfl, b, _, _, _, rfl, rfl, SqL.of upd_same, rfl, rfl, _, rfl, ?_⟩
      refine ite2 (fun hq0 => ?_) (fun _ => fin _)
      refine ⟨_, rfl, b, _, _, _, rfl, rfl, SqL.of upd_same, rfl, _, rfl, b, _, _, _, rfl, rfl, SqL.of upd_same, rfl, _, _, rfl, .inl ⟨_, SqL.of (hcc _), rfl⟩, _, _, rfl, rfl, _, rfl, ?_⟩
      refine ite2 (fun hlt => ?_) (fun _ => fin _)
      rw [List.length_map] at hlt
      have hlt' : i < (cs.length : Int) := of_decide_eq_true hlt
      obtain ⟨y, hy⟩ : ∃ y, cs[i.toNat]? = some y := ⟨cs[i.toNat]'(by omega), List.getElem?_eq_getElem (by omega)⟩
      have hat : atI (cs.map V.int) i = some (V.int y) := by
        unfold atI ixN
        rw [List.length_map, if_pos hi, if_pos hlt']
        simp [hy]
      -- cell = bag[0][bag[1]]; bag[1] = bag[1] + 1
      refine ⟨_, rfl, b, _, _, _, rfl, rfl, SqL.of upd_same, rfl, _, rfl, b, _, _, _, rfl, rfl, SqL.of upd_same, rfl, c, _, _, _, rfl, rfl, SqL.of (hcc _), hat, ?_⟩
      refine ⟨_, rfl, b, _, _, _, rfl, rfl, SqL.of upd_same, rfl, _, _, rfl, rfl, _, rfl, b, _, _, _, rfl, rfl, upd_same, rfl, ?_⟩
      refine ⟨_, rfl, _, _, rfl, rfl, ⟨by decide, by decide, by decide⟩, _, _, rfl, rfl, _, rfl, ?_⟩
      refine ite2 (fun hbig => ?_) (fun _ => ?_)
      · refine ⟨_, rfl, _, rfl, b, _, _, _, rfl, rfl, upd_same, rfl, ?_⟩
        have hy0 : 0 ≤ y := by
          have := of_decide_eq_true hbig
          have e : (10 : Int) ^ (18 : Int).toNat = 1000000000000000000 := by decide
          rw [e] at this
          omega
        refine ⟨i + 1, y, m, n + 1, q, _, rfl, by omega, hy0, ?_⟩
        rw [upd_upd, upd_upd]
        rfl
      · refine ⟨_, rfl, b, _, _, _, rfl, rfl, SqL.of upd_same, rfl, _, _, rfl, rfl, .inr ⟨by decide, by decide⟩, _, rfl, _, _, rfl, rfl, _, _, rfl, rfl, .inl ⟨_, rfl, _, _, rfl, rfl, (by show (0 : Int) < 2147483647; decide), _, rfl, b, _, _, _, rfl, rfl, upd_same, rfl, ?_⟩⟩
        refine ⟨_, rfl, b, _, _, _, rfl, rfl, upd_same, rfl, ?_⟩
        refine ⟨i + 1, z, (m * 69621 + y + 12345) % 2147483647, n + 1, 6, _, rfl, by omega, hz, ?_⟩
        rw [upd_upd, upd_upd, upd_upd]
        rfl
    · clear hb hz hi hl
      rintro σ' H' ⟨i, z, m, n, q, v, rfl, hi, hz, rfl⟩
      have h1 : ∀ L, (upd H b L) b = some L := fun L => upd_same
      have kp : ∀ L, Kp [b] H (upd H b L) := fun L => by
        obtain ⟨_, _, _, _, _, hb, _⟩ := BG.bg
        exact Kp.updL hb (by simp)
      have bag : ∀ i z m n q : Int, 0 ≤ i → 0 ≤ z → Bag (upd H b (.lst [.ref c, .int i, .int z, .int m, .int n, .int q])) b c := fun i z m n q hi hz => by
        obtain ⟨cs, hc, hl⟩ := BG.cl
        exact ⟨⟨i, z, m, n, q, upd_same, hi, hz⟩, ⟨cs, by rw [upd_ne ncb]; exact hc, hl⟩⟩
      refine ⟨fun σ H' => σ = [some (.ref b), some (.int many), v, none, none] ∧ H' = upd H b (.lst [.ref c, .int i, .int z, .int m, .int n, .int q]), ?_, ?_⟩
      · refine ⟨_, rfl, b, _, _, _, rfl, rfl, SqL.of upd_same, rfl, _, _, rfl, rfl, _, rfl, ?_⟩
        refine ite2 (fun _ => ?_) (fun _ => ⟨rfl, rfl⟩)
        refine ⟨_, rfl, b, _, _, _, rfl, rfl, SqL.of upd_same, rfl, .inl ⟨_, rfl, _, rfl, _, _, rfl, rfl, m0, ?_⟩⟩
        refine ⟨_, rfl, b, _, _, _, rfl, rfl, SqL.of upd_same, rfl, _, rfl, _, _, rfl, rfl, ⟨m0, m1⟩, _, rfl, b, _, _, _, rfl, rfl, upd_same, rfl, ?_⟩
        refine ⟨_, rfl, ?_⟩
        rw [upd_upd]
        exact k _ _ (Int.emod_nonneg _ (by omega)) (Int.emod_lt_of_pos _ m0) (bag _ _ _ _ _ hi (Int.ediv_nonneg hz (by omega))) (kp _)
      · rintro σ' H' ⟨rfl, rfl⟩
        refine ⟨_, rfl, b, _, _, _, rfl, rfl, SqL.of upd_same, rfl, _, _, rfl, rfl, _, _, rfl, _, rfl, b, _, _, _, rfl, rfl, upd_same, rfl, ?_⟩
        rw [upd_upd]
        refine ⟨_, rfl, b, _, _, _, rfl, rfl, SqL.of upd_same, rfl, _, rfl, b, _, _, _, rfl, rfl, SqL.of upd_same, rfl, _, _, rfl, rfl, .inl ⟨by decide, by decide⟩, _, _, rfl, rfl, _, _, rfl, rfl, _, _, rfl, rfl, .inr ⟨by decide, by decide⟩, .inl ⟨_, rfl, _, _, rfl, rfl, (by show (0 : Int) < 2147483647; decide), ?_⟩⟩
        generalize hx : ((m + 7919 * n + 1) * 48271) % 2147483647 = x
        have x0 : 0 ≤ x := hx ▸ Int.emod_nonneg _ (by decide)
        have x1 : x < 2147483647 := hx ▸ Int.emod_lt_of_pos _ (by decide)
        refine ⟨_, rfl, _, rfl, _, _, rfl, rfl, ⟨by decide, by decide⟩, _, _, rfl, rfl, _, _, rfl, rfl, .inl ⟨by omega, by omega⟩, .inl ⟨_, rfl, _, _, rfl, rfl, (by show (0 : Int) < 2147483647; decide), ?_⟩⟩
        generalize hy : (x * (x / 1009 + 69621)) % 2147483647 = y
        have y0 : 0 ≤ y := hy ▸ Int.emod_nonneg _ (by decide)
        have y1 : y < 2147483647 := hy ▸ Int.emod_lt_of_pos _ (by decide)
        refine ⟨_, rfl, _, rfl, _, _, rfl, rfl, ⟨by decide, by decide⟩, _, _, rfl, rfl, _, _, rfl, rfl, .inl ⟨by omega, by omega⟩, .inl ⟨_, rfl, _, _, rfl, rfl, (by show (0 : Int) < 2147483399; decide), ?_⟩⟩
        refine ⟨_, rfl, _, _, rfl, rfl, ⟨by decide, by decide⟩, .inl ⟨_, rfl, _, rfl, _, _, rfl, rfl, m0, ?_⟩⟩
        exact k _ _ (Int.emod_nonneg _ (by omega)) (Int.emod_lt_of_pos _ m0) (bag _ _ _ _ _ hi hz) (kp _)
end
end Fm

namespace Fm
open PySem PySem.Spec PyProof.Rows L2
/-! ### names -/
/-- a text of 1 to 8 letters a to z -/
def IsNm (w : Str) : Prop := 1 ≤ w.length ∧ w.length ≤ 8 ∧ ∀ c ∈ w.cps.toList, 97 ≤ c ∧ c ≤ 122
def abc : Str := "abcdefghijklmnopqrstuvwxyz"
theorem abc_at : ∀ n : Nat, n < 26 → abc.cps.toList[n]? = some (97 + n) := by decide +kernel
theorem abc_size : abc.cps.toList.length = 26 := by decide +kernel
theorem abc_len : abc.length = 26 := by decide +kernel
theorem abc_ix {r : Int} (h0 : 0 ≤ r) (h1 : r < 26) : atI abc.cps.toList r = some (97 + r.toNat) := by
  unfold atI ixN
  rw [abc_size, if_pos h0, if_pos (by omega)]
  exact abc_at r.toNat (by omega)
theorem one_nm {c : Nat} (h : 97 ≤ c ∧ c ≤ 122) : ∀ d ∈ (⟨#[c]⟩ : Str).cps.toList, 97 ≤ d ∧ d ≤ 122 := by
  intro d hd
  have e : d = c := by simpa using hd
  rw [e]; exact h
theorem join_ones : ∀ cs : List Nat, Str.join ⟨#[]⟩ (cs.map fun c => (⟨#[c]⟩ : Str)) = ⟨cs.toArray⟩
  | [] => rfl
  | [c] => rfl
  | c :: d :: r => by
    have ih := join_ones (d :: r)
    show (⟨#[c]⟩ : Str) ++ ⟨#[]⟩ ++ Str.join ⟨#[]⟩ ((d :: r).map fun c => (⟨#[c]⟩ : Str)) = _
    rw [ih]
    refine ext_toList ?_
    show ((#[c] ++ #[]) ++ (d :: r).toArray).toList = _
    simp
theorem txt_join_ones (cs : List Nat) : PySem.Txt.join (Str.ofString "") (cs.map fun c => (⟨#[c]⟩ : Str)) = ⟨cs.toArray⟩ := by
  rw [show (Str.ofString "" : Str) = ⟨#[]⟩ by decide +kernel]
  rw [TL.join_eq]
  exact join_ones cs
theorem sum_ones : ∀ cs : List Nat, ((cs.map fun c => (⟨#[c]⟩ : Str)).map (·.length)).sum = cs.length
  | [] => rfl
  | c :: r => by
    have ih := sum_ones r
    show 1 + ((r.map fun c => (⟨#[c]⟩ : Str)).map (·.length)).sum = r.length + 1
    rw [ih]; omega
theorem inV_strs (w : Str) (ws : List Str) : inV (.str w) (ws.map V.str) = decide (w ∈ ws) := by
  unfold inV
  induction ws with
  | nil => rfl
  | cons a r ih =>
    rw [List.map_cons, List.any_cons, ih]
    show ((a == w) || decide (w ∈ r)) = _
    by_cases h : a = w
    · subst h; simp
    · have : ¬ w = a := fun z => h z.symm
      simp [h, this]
theorem flat_strs (ws : List Str) : (ws.map V.str).all flatV = true := by
  rw [List.all_eq_true]
  intro x hx
  obtain ⟨w, _, rfl⟩ := List.mem_map.mp hx
  rfl
theorem pigeon {α : Type} [DecidableEq α] : ∀ (l ws : List α), l.Nodup → (∀ x ∈ l, x ∈ ws) → l.length ≤ ws.length
  | [], _, _, _ => Nat.zero_le _
  | a :: l, ws, nd, h => by
    have ha : a ∈ ws := h a List.mem_cons_self
    have hn : a ∉ l := (List.nodup_cons.mp nd).1
    have ih := pigeon l (ws.erase a) (List.nodup_cons.mp nd).2 fun x hx => by
      have hxa : x ≠ a := fun z => hn (z ▸ hx)
      exact (List.mem_erase_of_ne hxa).mpr (h x (List.mem_cons_of_mem _ hx))
    have := List.length_erase_of_mem ha
    have hp : 0 < ws.length := List.length_pos_of_mem ha
    simp only [List.length_cons]
    omega
/-- the stem and one letter -/
def stemL (s : Str) (n : Nat) : Str := s ++ ⟨#[97 + n]⟩
theorem stemL_inj {s : Str} {m n : Nat} (h : stemL s m = stemL s n) : m = n := by
  have e : (stemL s m).cps.toList = (stemL s n).cps.toList := by rw [h]
  unfold stemL at e
  change (s.cps ++ #[97 + m]).toList = (s.cps ++ #[97 + n]).toList at e
  simp at e
  omega
theorem stems_nodup (s : Str) (n : Nat) : ((List.range n).map (stemL s)).Nodup := by
  rw [List.nodup_iff_pairwise_ne, List.pairwise_map]
  exact (List.nodup_range (n := n)).imp fun h z => h (stemL_inj z)
theorem stem_nm {s : Str} {n : Nat} (h7 : s.length ≤ 7) (hs : ∀ c ∈ s.cps.toList, 97 ≤ c ∧ c ≤ 122) (hn : n < 26) : IsNm (stemL s n) := by
  have hl : (stemL s n).length = s.length + 1 := by
    unfold stemL
    change (s.cps ++ #[97 + n]).size = s.cps.size + 1
    simp
  refine ⟨by omega, by omega, fun c hc => ?_⟩
  unfold stemL at hc
  change c ∈ (s.cps ++ #[97 + n]).toList at hc
  simp at hc
  rcases hc with hc | hc
  · exact hs c (by simpa using hc)
  · omega
theorem cut7 (w : Str) : (cutS w none (some 7)).length ≤ 7 ∧ ∀ c ∈ (cutS w none (some 7)).cps.toList, c ∈ w.cps.toList := by
  have e1 : HT.sIx w.length w.length (some 7) = min 7 w.length := HT.sIx_nat _ _ 7
  unfold cutS
  rw [e1, HT.sIx_none, List.drop_zero, Nat.sub_zero]
  refine ⟨?_, fun c hc => ?_⟩
  · change (List.take (min 7 w.length) w.cps.toList).toArray.size ≤ 7
    simp
    omega
  · exact List.mem_of_mem_take (by simpa using hc)
/-- the ways through the loop: while the words were taken, up to k letters -/
theorem all_taken {s : Str} {ws : List Str} (hw : ws.length ≤ 25) (h : ∀ j, j < 26 → stemL s j ∈ ws) : False := by
  have := pigeon ((List.range 26).map (stemL s)) ws (stems_nodup s 26) fun x hx => by
    obtain ⟨j, hj, rfl⟩ := List.mem_map.mp hx
    exact h j (List.mem_range.mp hj)
  rw [List.length_map, List.length_range] at this
  omega
theorem atI_of {α : Type} {xs : List α} {r : Int} {x : α} (h0 : 0 ≤ r) (h : xs[r.toNat]? = some x) : atI xs r = some x := by
  have hl : r.toNat < xs.length := (List.getElem?_eq_some_iff.mp h).1
  unfold atI ixN
  rw [if_pos h0, if_pos (by omega)]
  exact h
end Fm

namespace Fm
open PySem PySem.Spec PyProof.Rows L2
/-! ### data in the heap: v tells d, at most n deep; with q = true no dict in it is locked -/
def keyD : Key → PyData
  | .inl i => .int i
  | .inr x => .str x
def DkAt (q : Bool) (H : Hp) (a : Addr) (kvs : List (Key × V)) : Prop := if q = true then H a = some (.dK kvs) else Rd H a (.dK kvs)
mutual
inductive Dt (S : Addr → Prop) (q : Bool) (H : Hp) : Nat → V → PyData → Prop
  | non {n : Nat} : Dt S q H n .non .none
  | bl {n : Nat} (b : Bool) : Dt S q H n (.bl b) (.bool b)
  | int {n : Nat} (i : Int) : Dt S q H n (.int i) (.int i)
  | str {n : Nat} (x : Str) (h : x.length ≤ 1000000) : Dt S q H n (.str x) (.str x)
  | lst {n : Nat} {a : Addr} {xs : List V} {ds : List PyData} : Rd H a (.lst xs) → xs.length ≤ 1000000 ∧ S a → DtAll S q H n xs ds → Dt S q H (n + 1) (.ref a) (.list ds)
  | tup {n : Nat} {a : Addr} {xs : List V} {ds : List PyData} : H a = some (.tup xs) → xs.length ≤ 1000000 ∧ S a → DtAll S q H n xs ds → Dt S q H (n + 1) (.ref a) (.tuple ds)
  | dic {n : Nat} {a : Addr} {kvs : List (Key × V)} {ds : List (PyData × PyData)} : DkAt q H a kvs → (kvs.length ≤ 1000000 ∧ (kvs.map (·.1)).Nodup) ∧ S a → DtKV S q H n kvs ds → Dt S q H (n + 1) (.ref a) (.dict ds)
inductive DtAll (S : Addr → Prop) (q : Bool) (H : Hp) : Nat → List V → List PyData → Prop
  | nil {n : Nat} : DtAll S q H n [] []
  | cons {n : Nat} {v : V} {vs : List V} {d : PyData} {ds : List PyData} : Dt S q H n v d → DtAll S q H n vs ds → DtAll S q H n (v :: vs) (d :: ds)
inductive DtKV (S : Addr → Prop) (q : Bool) (H : Hp) : Nat → List (Key × V) → List (PyData × PyData) → Prop
  | nil {n : Nat} : DtKV S q H n [] []
  | cons {n : Nat} {k : Key} {v : V} {vs : List (Key × V)} {d : PyData} {ds : List (PyData × PyData)} : Dt S q H n v d → DtKV S q H n vs ds → DtKV S q H n ((k, v) :: vs) ((keyD k, d) :: ds)
end
/-- what stood stands, or is locked now -/
def Sm (H H' : Hp) : Prop := ∀ a o, H a = some o → H' a = some o ∨ (∃ ob, H' a = some (.frz ob o)) ∧ (∀ ob u, o ≠ .frz ob u) ∧ ∀ xs, o ≠ .tup xs
theorem Sm.rd {H H' : Hp} (s : Sm H H') {a : Addr} {u : HO} (r : Rd H a u) : Rd H' a u := by
  rcases r with r | ⟨o, r⟩
  · rcases s a u r with h | ⟨⟨ob, h⟩, _⟩
    · exact .inl h
    · exact .inr ⟨ob, h⟩
  · rcases s a _ r with h | ⟨_, h⟩
    · exact .inr ⟨o, h⟩
    · exact absurd rfl (h.1 o u)
theorem Sm.tup {H H' : Hp} (s : Sm H H') {a : Addr} {xs : List V} (r : H a = some (.tup xs)) : H' a = some (.tup xs) := by
  rcases s a _ r with h | ⟨_, _, h⟩
  · exact h
  · exact absurd rfl (h xs)
theorem Kp.sm {H H' : Hp} (k : Kp [] H H') : Sm H H' := fun a o e => .inl (k.at_ a o e (fun z => nomatch z))
theorem Sm.lock {H : Hp} {d : Addr} {u : HO} {od : Obj} (e : H d = some u) (hu : ∀ ob x, u ≠ .frz ob x) (hv : ∀ xs, u ≠ .tup xs) : Sm H (upd H d (.frz od u)) := fun a o h => by
  by_cases z : a = d
  · rw [z, e] at h
    cases h
    exact .inr ⟨⟨od, by rw [z, upd_same]⟩, hu, hv⟩
  · exact .inl (by rw [upd_ne z]; exact h)
mutual
theorem Dt.sm {S : Addr → Prop} {H H' : Hp} (s : Sm H H') : ∀ {n : Nat} {v : V} {d : PyData}, Dt S false H n v d → Dt S false H' n v d
  | _, _, _, .non => .non
  | _, _, _, .bl b => .bl b
  | _, _, _, .int b => .int b
  | _, _, _, .str b h => .str b h
  | _, _, _, .lst r l a => .lst (s.rd r) l (DtAll.sm s a)
  | _, _, _, .tup r l a => .tup (s.tup r) l (DtAll.sm s a)
  | _, _, _, .dic r l a => .dic (show DkAt false H' _ _ from s.rd (show Rd H _ _ from r)) l (DtKV.sm s a)
theorem DtAll.sm {S : Addr → Prop} {H H' : Hp} (s : Sm H H') : ∀ {n : Nat} {v : List V} {d : List PyData}, DtAll S false H n v d → DtAll S false H' n v d
  | _, _, _, .nil => .nil
  | _, _, _, .cons a b => .cons (Dt.sm s a) (DtAll.sm s b)
theorem DtKV.sm {S : Addr → Prop} {H H' : Hp} (s : Sm H H') : ∀ {n : Nat} {v : List (Key × V)} {d : List (PyData × PyData)}, DtKV S false H n v d → DtKV S false H' n v d
  | _, _, _, .nil => .nil
  | _, _, _, .cons a b => .cons (Dt.sm s a) (DtKV.sm s b)
end
theorem Kp.rd {ms : List Addr} {H H' : Hp} {a : Addr} {u : HO} (k : Kp ms H H') (hm : a ∉ ms) (r : Rd H a u) : Rd H' a u := by
  rcases r with r | ⟨o, r⟩
  · exact .inl (k.at_ _ _ r hm)
  · exact .inr ⟨o, k.at_ _ _ r hm⟩
theorem rd_keep {H H' : Hp} {a : Addr} {u : HO} (s : ∀ o, H a = some o → H' a = some o) (r : Rd H a u) : Rd H' a u := by
  rcases r with r | ⟨o, r⟩
  · exact .inl (s _ r)
  · exact .inr ⟨o, s _ r⟩
mutual
theorem Dt.keep {S : Addr → Prop} {q : Bool} {H H' : Hp} (s : Kp [] H H') : ∀ {n : Nat} {v : V} {d : PyData}, Dt S q H n v d → Dt S q H' n v d
  | _, _, _, .non => .non
  | _, _, _, .bl b => .bl b
  | _, _, _, .int b => .int b
  | _, _, _, .str b h => .str b h
  | _, _, _, .lst r l a => .lst (s.rd (fun z => nomatch z) r) l (DtAll.keep s a)
  | _, _, _, .tup r l a => .tup (s.tp _ _ r) l (DtAll.keep s a)
  | _, _, _, .dic r l a => .dic (by
      unfold DkAt at r ⊢
      cases q with
      | true => exact s.at_ _ _ r (fun z => nomatch z)
      | false => exact s.rd (fun z => nomatch z) r) l (DtKV.keep s a)
theorem DtAll.keep {S : Addr → Prop} {q : Bool} {H H' : Hp} (s : Kp [] H H') : ∀ {n : Nat} {v : List V} {d : List PyData}, DtAll S q H n v d → DtAll S q H' n v d
  | _, _, _, .nil => .nil
  | _, _, _, .cons a b => .cons (Dt.keep s a) (DtAll.keep s b)
theorem DtKV.keep {S : Addr → Prop} {q : Bool} {H H' : Hp} (s : Kp [] H H') : ∀ {n : Nat} {v : List (Key × V)} {d : List (PyData × PyData)}, DtKV S q H n v d → DtKV S q H' n v d
  | _, _, _, .nil => .nil
  | _, _, _, .cons a b => .cons (Dt.keep s a) (DtKV.keep s b)
end
mutual
theorem Dt.keepS {S S' : Addr → Prop} {q : Bool} {H H' : Hp} (s : ∀ a o, S a → H a = some o → H' a = some o) (i : ∀ a, S a → S' a) : ∀ {n : Nat} {v : V} {d : PyData}, Dt S q H n v d → Dt S' q H' n v d
  | _, _, _, .non => .non
  | _, _, _, .bl b => .bl b
  | _, _, _, .int b => .int b
  | _, _, _, .str b h => .str b h
  | _, _, _, .lst r l a => .lst (rd_keep (fun o e => s _ o l.2 e) r) ⟨l.1, i _ l.2⟩ (DtAll.keepS s i a)
  | _, _, _, .tup r l a => .tup (s _ _ l.2 r) ⟨l.1, i _ l.2⟩ (DtAll.keepS s i a)
  | _, _, _, .dic r l a => .dic (by
      unfold DkAt at r ⊢
      cases q with
      | true => exact s _ _ l.2 r
      | false => exact rd_keep (fun o e => s _ o l.2 e) r) ⟨l.1, i _ l.2⟩ (DtKV.keepS s i a)
theorem DtAll.keepS {S S' : Addr → Prop} {q : Bool} {H H' : Hp} (s : ∀ a o, S a → H a = some o → H' a = some o) (i : ∀ a, S a → S' a) : ∀ {n : Nat} {v : List V} {d : List PyData}, DtAll S q H n v d → DtAll S' q H' n v d
  | _, _, _, .nil => .nil
  | _, _, _, .cons a b => .cons (Dt.keepS s i a) (DtAll.keepS s i b)
theorem DtKV.keepS {S S' : Addr → Prop} {q : Bool} {H H' : Hp} (s : ∀ a o, S a → H a = some o → H' a = some o) (i : ∀ a, S a → S' a) : ∀ {n : Nat} {v : List (Key × V)} {d : List (PyData × PyData)}, DtKV S q H n v d → DtKV S' q H' n v d
  | _, _, _, .nil => .nil
  | _, _, _, .cons a b => .cons (Dt.keepS s i a) (DtKV.keepS s i b)
end
theorem Dt.imp {S S' : Addr → Prop} {q : Bool} {H : Hp} {n : Nat} {v : V} {d : PyData} (h : Dt S q H n v d) (i : ∀ a, S a → S' a) : Dt S' q H n v d := h.keepS (fun _ _ _ e => e) i
theorem DtAll.imp {S S' : Addr → Prop} {q : Bool} {H : Hp} {n : Nat} {v : List V} {d : List PyData} (h : DtAll S q H n v d) (i : ∀ a, S a → S' a) : DtAll S' q H n v d := h.keepS (fun _ _ _ e => e) i
mutual
theorem Dt.weak {S : Addr → Prop} {H : Hp} : ∀ {q : Bool} {n : Nat} {v : V} {d : PyData}, Dt S q H n v d → Dt S false H n v d
  | _, _, _, _, .non => .non
  | _, _, _, _, .bl b => .bl b
  | _, _, _, _, .int b => .int b
  | _, _, _, _, .str b h => .str b h
  | _, _, _, _, .lst r l a => .lst r l (DtAll.weak a)
  | _, _, _, _, .tup r l a => .tup r l (DtAll.weak a)
  | q, _, _, _, .dic r l a => .dic (by
      unfold DkAt at r ⊢
      cases q with
      | true => exact .inl r
      | false => exact r) l (DtKV.weak a)
theorem DtAll.weak {S : Addr → Prop} {H : Hp} : ∀ {q : Bool} {n : Nat} {v : List V} {d : List PyData}, DtAll S q H n v d → DtAll S false H n v d
  | _, _, _, _, .nil => .nil
  | _, _, _, _, .cons a b => .cons (Dt.weak a) (DtAll.weak b)
theorem DtKV.weak {S : Addr → Prop} {H : Hp} : ∀ {q : Bool} {n : Nat} {v : List (Key × V)} {d : List (PyData × PyData)}, DtKV S q H n v d → DtKV S false H n v d
  | _, _, _, _, .nil => .nil
  | _, _, _, _, .cons a b => .cons (Dt.weak a) (DtKV.weak b)
end
mutual
theorem Dt.mono {S : Addr → Prop} {q : Bool} {H : Hp} : ∀ {n m : Nat} {v : V} {d : PyData}, n ≤ m → Dt S q H n v d → Dt S q H m v d
  | _, _, _, _, _, .non => .non
  | _, _, _, _, _, .bl b => .bl b
  | _, _, _, _, _, .int b => .int b
  | _, _, _, _, _, .str b h => .str b h
  | n + 1, m + 1, _, _, h, .lst r l a => .lst r l (DtAll.mono (Nat.le_of_succ_le_succ h) a)
  | n + 1, m + 1, _, _, h, .tup r l a => .tup r l (DtAll.mono (Nat.le_of_succ_le_succ h) a)
  | n + 1, m + 1, _, _, h, .dic r l a => .dic r l (DtKV.mono (Nat.le_of_succ_le_succ h) a)
theorem DtAll.mono {S : Addr → Prop} {q : Bool} {H : Hp} : ∀ {n m : Nat} {v : List V} {d : List PyData}, n ≤ m → DtAll S q H n v d → DtAll S q H m v d
  | _, _, _, _, _, .nil => .nil
  | _, _, _, _, h, .cons a b => .cons (Dt.mono h a) (DtAll.mono h b)
theorem DtKV.mono {S : Addr → Prop} {q : Bool} {H : Hp} : ∀ {n m : Nat} {v : List (Key × V)} {d : List (PyData × PyData)}, n ≤ m → DtKV S q H n v d → DtKV S q H m v d
  | _, _, _, _, _, .nil => .nil
  | _, _, _, _, h, .cons a b => .cons (Dt.mono h a) (DtKV.mono h b)
end
theorem rd_fun {H : Hp} {a : Addr} {u u' : HO} (r : Rd H a u) (r' : Rd H a u') (h : ∀ ob x, u ≠ .frz ob x) (h' : ∀ ob x, u' ≠ .frz ob x) : u = u' := by
  rcases r with r | ⟨o, r⟩ <;> rcases r' with r' | ⟨o', r'⟩ <;> rw [r] at r' <;> cases r'
  · rfl
  · exact absurd rfl (h _ _)
  · exact absurd rfl (h' _ _)
  · rfl
theorem keyD_inj {k k' : Key} (h : keyD k = keyD k') : k = k' := by
  cases k <;> cases k' <;> cases h <;> rfl
mutual
theorem Dt.det {S S' : Addr → Prop} {H : Hp} : ∀ {n m : Nat} {v : V} {d e : PyData}, Dt S false H n v d → Dt S' false H m v e → d = e
  | _, _, _, _, _, .non, .non => rfl
  | _, _, _, _, _, .bl _, .bl _ => rfl
  | _, _, _, _, _, .int _, .int _ => rfl
  | _, _, _, _, _, .str _ _, .str _ _ => rfl
  | _, _, _, _, _, .lst r l a, h => by
    cases h with
    | lst r' l' a' =>
      have e := rd_fun r r' (fun _ _ z => by cases z) (fun _ _ z => by cases z)
      cases e
      rw [DtAll.det a a']
    | tup r' l' a' =>
      have e := rd_fun r (.inl r') (fun _ _ z => by cases z) (fun _ _ z => by cases z)
      cases e
    | dic r' l' a' =>
      have e := rd_fun r (show Rd H _ _ from r') (fun _ _ z => by cases z) (fun _ _ z => by cases z)
      cases e
  | _, _, _, _, _, .tup r l a, h => by
    cases h with
    | lst r' l' a' =>
      have e := rd_fun (.inl r) r' (fun _ _ z => by cases z) (fun _ _ z => by cases z)
      cases e
    | tup r' l' a' =>
      have e := rd_fun (.inl r) (.inl r') (fun _ _ z => by cases z) (fun _ _ z => by cases z)
      cases e
      rw [DtAll.det a a']
    | dic r' l' a' =>
      have e := rd_fun (.inl r) (show Rd H _ _ from r') (fun _ _ z => by cases z) (fun _ _ z => by cases z)
      cases e
  | _, _, _, _, _, .dic r l a, h => by
    cases h with
    | lst r' l' a' =>
      have e := rd_fun (show Rd H _ _ from r) r' (fun _ _ z => by cases z) (fun _ _ z => by cases z)
      cases e
    | tup r' l' a' =>
      have e := rd_fun (show Rd H _ _ from r) (.inl r') (fun _ _ z => by cases z) (fun _ _ z => by cases z)
      cases e
    | dic r' l' a' =>
      have e := rd_fun (show Rd H _ _ from r) (show Rd H _ _ from r') (fun _ _ z => by cases z) (fun _ _ z => by cases z)
      cases e
      rw [DtKV.det a a']
theorem DtAll.det {S S' : Addr → Prop} {H : Hp} : ∀ {n m : Nat} {v : List V} {d e : List PyData}, DtAll S false H n v d → DtAll S' false H m v e → d = e
  | _, _, _, _, _, .nil, .nil => rfl
  | _, _, _, _, _, .cons a b, .cons a' b' => by rw [Dt.det a a', DtAll.det b b']
theorem DtKV.det {S S' : Addr → Prop} {H : Hp} : ∀ {n m : Nat} {v : List (Key × V)} {d e : List (PyData × PyData)}, DtKV S false H n v d → DtKV S' false H m v e → d = e
  | _, _, _, _, _, .nil, .nil => rfl
  | _, _, _, _, _, .cons a b, .cons a' b' => by rw [Dt.det a a', DtKV.det b b']
end
/-- locking a dict leaves data that is less than its own -/
theorem rd_lock {H : Hp} {a p : Addr} {u : HO} {kvs : List (Key × V)} {od : Obj} (hp : H p = some (.dK kvs)) (hu : ∀ kvs, u ≠ .dK kvs) (hf : ∀ ob x, u ≠ .frz ob x) (r : Rd H a u) : Rd (upd H p (.frz od (.dK kvs))) a u :=
  (Sm.lock (od := od) hp (fun _ _ z => by cases z) (fun _ z => by cases z)).rd r
mutual
theorem Dt.lock {S : Addr → Prop} {H : Hp} {p : Addr} {kvs : List (Key × V)} {ds : List (PyData × PyData)} {od : Obj} {m : Nat} (hp : H p = some (.dK kvs)) (hl : (kvs.length ≤ 1000000 ∧ (kvs.map (·.1)).Nodup) ∧ S p) (hd : DtKV S false H m kvs ds) : ∀ {n : Nat} {v : V} {d : PyData}, Dt S true H n v d → sizeOf d < sizeOf (PyData.dict ds) → Dt S true (upd H p (.frz od (.dK kvs))) n v d
  | _, _, _, .non, _ => .non
  | _, _, _, .bl b, _ => .bl b
  | _, _, _, .int b, _ => .int b
  | _, _, _, .str b h, _ => .str b h
  | _, _, _, .lst r l a, h => .lst (rd_lock hp (fun _ z => by cases z) (fun _ _ z => by cases z) r) l (DtAll.lock hp hl hd a (by simp at h ⊢; omega))
  | _, _, _, .tup r l a, h => .tup ((Sm.lock (od := od) hp (fun _ _ z => by cases z) (fun _ z => by cases z)).tup r) l (DtAll.lock hp hl hd a (by simp at h ⊢; omega))
  | n + 1, .ref x, .dict es, .dic (kvs := kvs') r l a, h => by
    have r' : H x = some (.dK kvs') := r
    refine .dic ?_ l (DtKV.lock hp hl hd a (by simp at h ⊢; omega))
    show upd H p _ x = some (.dK kvs')
    by_cases z : x = p
    · exfalso
      have e : Dt S false H (m + 1) (.ref x) (.dict ds) := by rw [z]; exact .dic (show Rd H p _ from .inl hp) hl hd
      have e2 : Dt S false H (n + 1) (.ref x) (.dict es) := .dic (show Rd H x _ from .inl r') l (DtKV.weak a)
      have e3 := Dt.det e2 e
      rw [e3] at h
      exact Nat.lt_irrefl _ h
    · rw [upd_ne z]; exact r'
theorem DtAll.lock {S : Addr → Prop} {H : Hp} {p : Addr} {kvs : List (Key × V)} {ds : List (PyData × PyData)} {od : Obj} {m : Nat} (hp : H p = some (.dK kvs)) (hl : (kvs.length ≤ 1000000 ∧ (kvs.map (·.1)).Nodup) ∧ S p) (hd : DtKV S false H m kvs ds) : ∀ {n : Nat} {v : List V} {d : List PyData}, DtAll S true H n v d → sizeOf d < sizeOf (PyData.dict ds) → DtAll S true (upd H p (.frz od (.dK kvs))) n v d
  | _, _, _, .nil, _ => .nil
  | _, _, _, .cons a b, h => .cons (Dt.lock hp hl hd a (by simp at h ⊢; omega)) (DtAll.lock hp hl hd b (by simp at h ⊢; omega))
theorem DtKV.lock {S : Addr → Prop} {H : Hp} {p : Addr} {kvs : List (Key × V)} {ds : List (PyData × PyData)} {od : Obj} {m : Nat} (hp : H p = some (.dK kvs)) (hl : (kvs.length ≤ 1000000 ∧ (kvs.map (·.1)).Nodup) ∧ S p) (hd : DtKV S false H m kvs ds) : ∀ {n : Nat} {v : List (Key × V)} {d : List (PyData × PyData)}, DtKV S true H n v d → sizeOf d < sizeOf (PyData.dict ds) → DtKV S true (upd H p (.frz od (.dK kvs))) n v d
  | _, _, _, .nil, _ => .nil
  | _, _, _, .cons a b, h => .cons (Dt.lock hp hl hd a (by simp at h ⊢; omega)) (DtKV.lock hp hl hd b (by simp at h ⊢; omega))
end
/-! ### items -/
theorem DtAll.len {S : Addr → Prop} {q : Bool} {H : Hp} : ∀ {n : Nat} {v : List V} {d : List PyData}, DtAll S q H n v d → v.length = d.length
  | _, _, _, .nil => rfl
  | _, _, _, .cons _ b => by rw [List.length_cons, List.length_cons, DtAll.len b]
theorem DtAll.get {S : Addr → Prop} {q : Bool} {H : Hp} : ∀ {n : Nat} {v : List V} {d : List PyData}, DtAll S q H n v d → ∀ {i : Nat} {x : PyData}, d[i]? = some x → ∃ y, v[i]? = some y ∧ Dt S q H n y x
  | _, _, _, .cons a b, 0, x, h => by cases h; exact ⟨_, rfl, a⟩
  | _, _, _, .cons a b, i + 1, x, h => b.get (i := i) h
theorem DtAll.getV {S : Addr → Prop} {q : Bool} {H : Hp} : ∀ {n : Nat} {v : List V} {d : List PyData}, DtAll S q H n v d → ∀ {i : Nat} {y : V}, v[i]? = some y → ∃ x, d[i]? = some x ∧ Dt S q H n y x
  | _, _, _, .cons a b, 0, x, h => by cases h; exact ⟨_, rfl, a⟩
  | _, _, _, .cons a b, i + 1, x, h => b.getV (i := i) h
theorem DtAll.append {S : Addr → Prop} {q : Bool} {H : Hp} : ∀ {n : Nat} {v v' : List V} {d d' : List PyData}, DtAll S q H n v d → DtAll S q H n v' d' → DtAll S q H n (v ++ v') (d ++ d')
  | _, _, _, _, _, .nil, h => h
  | _, _, _, _, _, .cons a b, h => .cons a (b.append h)
theorem DtKV.len {S : Addr → Prop} {q : Bool} {H : Hp} : ∀ {n : Nat} {v : List (Key × V)} {d : List (PyData × PyData)}, DtKV S q H n v d → v.length = d.length
  | _, _, _, .nil => rfl
  | _, _, _, .cons _ b => by rw [List.length_cons, List.length_cons, DtKV.len b]
theorem DtKV.keys {S S' : Addr → Prop} {q q' : Bool} {H H' : Hp} : ∀ {n m : Nat} {v v' : List (Key × V)} {d : List (PyData × PyData)}, DtKV S q H n v d → DtKV S' q' H' m v' d → v.map (·.1) = v'.map (·.1)
  | _, _, _, _, _, .nil, h => by cases h; rfl
  | _, _, _, _, _, .cons (k := k) a b, h => by
    generalize hd : keyD k = kd at h
    cases h with
    | @cons _ k' _ _ _ _ a' b' =>
      have e := keyD_inj hd
      rw [List.map_cons, List.map_cons, b.keys b']
      show k :: _ = k' :: _
      rw [e]
theorem DtKV.val {S S' : Addr → Prop} {q q' : Bool} {H H' : Hp} : ∀ {n m : Nat} {v v' : List (Key × V)} {d : List (PyData × PyData)}, DtKV S q H n v d → DtKV S' q' H' m v' d → ∀ (k : Key), k ∈ v.map (·.1) → ∃ x y e, valV v k = some x ∧ valV v' k = some y ∧ Dt S q H n x e ∧ Dt S' q' H' m y e ∧ sizeOf e < sizeOf (PyData.dict d)
  | _, _, _, _, _, .nil, h, k, hk => nomatch hk
  | _, _, _, _, _, .cons (k := k0) (v := v0) (vs := vs) a b, h, k, hk => by
    generalize hd : keyD k0 = kd at h
    cases h with
    | @cons _ k' v1 vs' _ _ a' b' =>
      have e := keyD_inj hd
      subst e
      by_cases z : k0 = k
      · refine ⟨_, _, _, ?_, ?_, a, a', ?_⟩
        · unfold valV; rw [List.find?_cons_of_pos (by simp [z])]; rfl
        · unfold valV; rw [List.find?_cons_of_pos (by simp [z])]; rfl
        · simp; omega
      · have hk' : k ∈ vs.map (·.1) := by
          rcases List.mem_cons.mp hk with h | h
          · exact absurd h.symm z
          · exact h
        obtain ⟨x, y, e, h1, h2, h3, h4, h5⟩ := b.val b' k hk'
        refine ⟨x, y, e, ?_, ?_, h3, h4, ?_⟩
        · unfold valV at h1 ⊢; rw [List.find?_cons_of_neg (by simp [z])]; exact h1
        · unfold valV at h2 ⊢; rw [List.find?_cons_of_neg (by simp [z])]; exact h2
        · simp at h5 ⊢; omega
theorem DtKV.getV {S : Addr → Prop} {q : Bool} {H : Hp} : ∀ {n : Nat} {v : List (Key × V)} {d : List (PyData × PyData)}, DtKV S q H n v d → ∀ {i : Nat} {k : Key} {y : V}, v[i]? = some (k, y) → ∃ x, d[i]? = some (keyD k, x) ∧ Dt S q H n y x ∧ sizeOf x < sizeOf (PyData.dict d)
  | _, _, _, .cons a b, 0, k, y, h => by
    cases h
    exact ⟨_, rfl, a, by simp; omega⟩
  | _, _, _, .cons a b, i + 1, k, y, h => by
    obtain ⟨x, h1, h2, h3⟩ := b.getV (i := i) h
    exact ⟨x, h1, h2, by simp at h3 ⊢; omega⟩
theorem DtKV.append {S : Addr → Prop} {q : Bool} {H : Hp} : ∀ {n : Nat} {v v' : List (Key × V)} {d d' : List (PyData × PyData)}, DtKV S q H n v d → DtKV S q H n v' d' → DtKV S q H n (v ++ v') (d ++ d')
  | _, _, _, _, _, .nil, h => h
  | _, _, _, _, _, .cons a b, h => .cons a (b.append h)
theorem valV_out {kvs : List (Key × V)} {k : Key} (h : k ∉ kvs.map (·.1)) : valV kvs k = none := by
  unfold valV
  rw [Option.map_eq_none_iff, List.find?_eq_none]
  intro x hx hk
  exact h (List.mem_map.mpr ⟨x, hx, of_decide_eq_true hk⟩)
theorem valV_at : ∀ {kvs : List (Key × V)} {i : Nat} {k : Key} {v : V}, (kvs.map (·.1)).Nodup → kvs[i]? = some (k, v) → valV kvs k = some v
  | [], _, _, _, _, h => by cases h
  | p :: r, 0, k, v, _, h => by
    cases h
    unfold valV
    rw [List.find?_cons_of_pos (by simp)]; rfl
  | p :: r, i + 1, k, v, nd, h => by
    have ih := valV_at (kvs := r) (i := i) (List.nodup_cons.mp nd).2 h
    have hm : k ∈ r.map (·.1) := List.mem_map.mpr ⟨(k, v), List.mem_of_getElem? h, rfl⟩
    have hne : p.1 ≠ k := fun z => (List.nodup_cons.mp nd).1 (by rw [← z] at hm; exact hm)
    unfold valV at ih ⊢
    rw [List.find?_cons_of_neg (by simp [hne])]
    exact ih
theorem nodup_at {α : Type} : ∀ {l : List α} (_ : l.Nodup) {i j : Nat} (hi : i < l.length) (hj : j < l.length), l[i] = l[j] → i = j
  | a :: l, nd, 0, 0, _, _, _ => rfl
  | a :: l, nd, 0, j + 1, _, hj, e => absurd (show a ∈ l by rw [show a = l[j]'(by simpa using hj) from e]; exact List.getElem_mem _) (List.nodup_cons.mp nd).1
  | a :: l, nd, i + 1, 0, hi, _, e => absurd (show a ∈ l by rw [← show l[i]'(by simpa using hi) = a from e]; exact List.getElem_mem _) (List.nodup_cons.mp nd).1
  | a :: l, nd, i + 1, j + 1, hi, hj, e => congrArg (· + 1) (nodup_at (List.nodup_cons.mp nd).2 (by simpa using hi) (by simpa using hj) e)
theorem notin_take {α : Type} {l : List α} {i : Nat} {x : α} (nd : l.Nodup) (h : l[i]? = some x) : x ∉ l.take i := fun hm => by
  obtain ⟨j, hj, e⟩ := List.mem_take_iff_getElem.mp hm
  obtain ⟨hi, e2⟩ := List.getElem?_eq_some_iff.mp h
  have := (nodup_at nd (by omega) hi (e.trans e2.symm))
  omega
/-! ### what isinstance tells of data -/
def tyD : PyData → Value
  | .none => .type "NoneType"
  | .bool _ => .type "bool"
  | .int _ => .type "int"
  | .str _ => .type "str"
  | .list _ => .type "list"
  | .tuple _ => .type "tuple"
  | .dict _ => .type "dict"
end Fm
namespace Fm
open PySem PySem.Spec PyProof.Rows L2
def tyS : PyData → String
  | .none => "NoneType"
  | .bool _ => "bool"
  | .int _ => "int"
  | .str _ => "str"
  | .list _ => "list"
  | .tuple _ => "tuple"
  | .dict _ => "dict"
theorem Dt.ty {S : Addr → Prop} {K : PySem.W.Frag} {q : Bool} {H : Hp} : ∀ {n : Nat} {v : V} {d : PyData}, Dt S q H n v d → TyX K H v (.type (tyS d))
  | _, _, _, .non => .base .non
  | _, _, _, .bl b => .base (.bl b)
  | _, _, _, .int b => .base (.int b)
  | _, _, _, .str b _ => .base (.str b)
  | _, _, _, .lst r l a => by
    rcases r with r | ⟨o, r⟩
    · exact .base (.lst r)
    · exact .base (.frz r)
  | _, _, _, .tup r l a => .base (.tup r)
  | _, _, _, .dic r l a => by
    have r' := (show Rd H _ _ by
      unfold DkAt at r
      cases q with
      | true => exact .inl r
      | false => exact r)
    rcases r' with r | ⟨o, r⟩
    · exact .base (.dK r)
    · exact .fDict r
def isL : PyData → Bool
  | .list _ => true
  | _ => false
theorem kb_list : ∀ d : PyData, kitB (tyS d) "list" = some (isL d)
  | .none => (by decide +kernel : kitB "NoneType" "list" = some false)
  | .bool _ => (by decide +kernel : kitB "bool" "list" = some false)
  | .int _ => (by decide +kernel : kitB "int" "list" = some false)
  | .str _ => (by decide +kernel : kitB "str" "list" = some false)
  | .list _ => (by decide +kernel : kitB "list" "list" = some true)
  | .tuple _ => (by decide +kernel : kitB "tuple" "list" = some false)
  | .dict _ => (by decide +kernel : kitB "dict" "list" = some false)
def isT : PyData → Bool
  | .tuple _ => true
  | _ => false
theorem kb_tuple : ∀ d : PyData, kitB (tyS d) "tuple" = some (isT d)
  | .none => (by decide +kernel : kitB "NoneType" "tuple" = some false)
  | .bool _ => (by decide +kernel : kitB "bool" "tuple" = some false)
  | .int _ => (by decide +kernel : kitB "int" "tuple" = some false)
  | .str _ => (by decide +kernel : kitB "str" "tuple" = some false)
  | .list _ => (by decide +kernel : kitB "list" "tuple" = some false)
  | .tuple _ => (by decide +kernel : kitB "tuple" "tuple" = some true)
  | .dict _ => (by decide +kernel : kitB "dict" "tuple" = some false)
def isM : PyData → Bool
  | .dict _ => true
  | _ => false
theorem kb_dict : ∀ d : PyData, kitB (tyS d) "dict" = some (isM d)
  | .none => (by decide +kernel : kitB "NoneType" "dict" = some false)
  | .bool _ => (by decide +kernel : kitB "bool" "dict" = some false)
  | .int _ => (by decide +kernel : kitB "int" "dict" = some false)
  | .str _ => (by decide +kernel : kitB "str" "dict" = some false)
  | .list _ => (by decide +kernel : kitB "list" "dict" = some false)
  | .tuple _ => (by decide +kernel : kitB "tuple" "dict" = some false)
  | .dict _ => (by decide +kernel : kitB "dict" "dict" = some true)
def isB : PyData → Bool
  | .bool _ => true
  | _ => false
theorem kb_bool : ∀ d : PyData, kitB (tyS d) "bool" = some (isB d)
  | .none => (by decide +kernel : kitB "NoneType" "bool" = some false)
  | .bool _ => (by decide +kernel : kitB "bool" "bool" = some true)
  | .int _ => (by decide +kernel : kitB "int" "bool" = some false)
  | .str _ => (by decide +kernel : kitB "str" "bool" = some false)
  | .list _ => (by decide +kernel : kitB "list" "bool" = some false)
  | .tuple _ => (by decide +kernel : kitB "tuple" "bool" = some false)
  | .dict _ => (by decide +kernel : kitB "dict" "bool" = some false)
def isI : PyData → Bool
  | .bool _ => true
  | .int _ => true
  | _ => false
theorem kb_int : ∀ d : PyData, kitB (tyS d) "int" = some (isI d)
  | .none => (by decide +kernel : kitB "NoneType" "int" = some false)
  | .bool _ => (by decide +kernel : kitB "bool" "int" = some true)
  | .int _ => (by decide +kernel : kitB "int" "int" = some true)
  | .str _ => (by decide +kernel : kitB "str" "int" = some false)
  | .list _ => (by decide +kernel : kitB "list" "int" = some false)
  | .tuple _ => (by decide +kernel : kitB "tuple" "int" = some false)
  | .dict _ => (by decide +kernel : kitB "dict" "int" = some false)
def isS : PyData → Bool
  | .str _ => true
  | _ => false
theorem kb_str : ∀ d : PyData, kitB (tyS d) "str" = some (isS d)
  | .none => (by decide +kernel : kitB "NoneType" "str" = some false)
  | .bool _ => (by decide +kernel : kitB "bool" "str" = some false)
  | .int _ => (by decide +kernel : kitB "int" "str" = some false)
  | .str _ => (by decide +kernel : kitB "str" "str" = some true)
  | .list _ => (by decide +kernel : kitB "list" "str" = some false)
  | .tuple _ => (by decide +kernel : kitB "tuple" "str" = some false)
  | .dict _ => (by decide +kernel : kitB "dict" "str" = some false)
theorem isi1 {S : Addr → Prop} {K : PySem.W.Frag} {q : Bool} {H : Hp} {n : Nat} {x : V} {d : PyData} {T : String} {b : Bool} {Q : VK} (h : Dt S q H n x d) (hb : kitB (tyS d) T = some b) (hq : Q (.bl b) H) : rIsi K [x, .ty T] H Q :=
  ⟨x, .ty T, .type (tyS d), .type T, b, rfl, .ty T, h.ty, kit_ty hb, hq⟩
def isRowD : PyData → Bool
  | .list _ => true
  | .tuple _ => true
  | _ => false
theorem kit_row {K : PySem.W.Frag} (d : PyData) : PySem.W.kitAny K (.type (tyS d)) [.type "list", .type "tuple"] = some (isRowD d) := by
  refine kitAny_cons (kit_ty (kb_list d)) (fun e => kitAny_cons (kit_ty (kb_tuple d)) (fun e' => ?_) (fun e' => ?_)) (fun e => ?_)
  · cases d <;> first | rfl | exact Bool.noConfusion e' | exact Bool.noConfusion e
  · cases d <;> first | rfl | exact Bool.noConfusion e' | exact Bool.noConfusion e
  · cases d <;> first | rfl | exact Bool.noConfusion e
theorem isiR {S : Addr → Prop} {K : PySem.W.Frag} {q : Bool} {H : Hp} {n : Nat} {x : V} {d : PyData} {T : Addr} {Q : VK} (h : Dt S q H n x d) (hT : H T = some (.tup [.ty "list", .ty "tuple"])) (hq : Q (.bl (isRowD d)) H) : rIsiT K [x, .ref T] H Q :=
  ⟨x, T, _, .type (tyS d), [.type "list", .type "tuple"], _, rfl, hT, .cons (.ty _) (.cons (.ty _) .nil), h.ty, kit_row d, hq⟩
theorem iteB {b c : Bool} {A B : Prop} (e : b = c) (h : if c = true then A else B) : if b = true then A else B := by rw [e]; exact h
theorem callR_or {X : Cx} {f : Value} {r r' : List V → Hp → VK → Prop} (h : CallR X f r) (h' : CallR X f r') : CallR X f (fun xs H Q => r xs H Q ∨ r' xs H Q) := by
  intro pins s σ H xs us Q I rv q
  rcases q with q | q
  · exact h pins s σ H xs us Q I rv q
  · exact h' pins s σ H xs us Q I rv q
theorem opR_or {X : Cx} {f : Value → Value → Sem Value} {r r' : R2} (h : OpR X f r) (h' : OpR X f r') : OpR X f (fun x y H Q => r x y H Q ∨ r' x y H Q) := by
  intro pins s σ H x y v u Q I rx ry q
  rcases q with q | q
  · exact h pins s σ H x y v u Q I rx ry q
  · exact h' pins s σ H x y v u Q I rx ry q
/-- len of a dict, locked or not -/
theorem call_lenR {X : Cx} : CallR X (.builtin "len") (fun xs H Q => ∃ a kvs, xs = [V.ref a] ∧ Rd H a (.dK kvs) ∧ Q (.int kvs.length) H) := by
  intro pins s σ H xs us Q I r h
  obtain ⟨a, kvs, rfl, ha, q⟩ := h
  obtain ⟨u, rfl, ru⟩ := vals1 r
  cases ru
  exact d_len I ha fun t s' I' => ⟨.int kvs.length, H, I', ⟨t, rfl⟩, q⟩
/-- a def of which nothing is promised -/
theorem Dfn.none {P : Program} {w : World} {K : PySem.W.Frag} {mg : Str → Option Value} {base : Heap} {x : Str} {st : Stmt} {ps : List Str} {CX : CXT} {k : Nat} (D : Dfn K mg x st ps) : Has P w K mg base CX x ps k (fun _ _ _ _ => False) := by
  obtain ⟨f, fd, F, g, b⟩ := D
  exact ⟨f, fd, ⟨fun _ _ _ _ h => h.elim, fun _ _ _ _ _ _ _ _ _ _ _ _ _ h => h.elim⟩, g, F.kp, b⟩
end Fm
namespace Fm
open PySem PySem.Spec PyProof.Rows L2
theorem rd_some {H : Hp} {a : Addr} {u : HO} (r : Rd H a u) : H a ≠ none := by
  rcases r with r | ⟨o, r⟩ <;> rw [r] <;> exact fun z => nomatch z
mutual
theorem Dt.inH {S : Addr → Prop} {q : Bool} {H : Hp} : ∀ {n : Nat} {v : V} {d : PyData}, Dt S q H n v d → Dt (fun a => S a ∧ H a ≠ none) q H n v d
  | _, _, _, .non => .non
  | _, _, _, .bl b => .bl b
  | _, _, _, .int b => .int b
  | _, _, _, .str b h => .str b h
  | _, _, _, .lst r l a => .lst r ⟨l.1, l.2, rd_some r⟩ (DtAll.inH a)
  | _, _, _, .tup r l a => .tup r ⟨l.1, l.2, rd_some (.inl r)⟩ (DtAll.inH a)
  | _, _, _, .dic r l a => .dic r ⟨l.1, l.2, by
      unfold DkAt at r
      cases q with
      | true => exact rd_some (.inl r)
      | false => exact rd_some r⟩ (DtKV.inH a)
theorem DtAll.inH {S : Addr → Prop} {q : Bool} {H : Hp} : ∀ {n : Nat} {v : List V} {d : List PyData}, DtAll S q H n v d → DtAll (fun a => S a ∧ H a ≠ none) q H n v d
  | _, _, _, .nil => .nil
  | _, _, _, .cons a b => .cons (Dt.inH a) (DtAll.inH b)
theorem DtKV.inH {S : Addr → Prop} {q : Bool} {H : Hp} : ∀ {n : Nat} {v : List (Key × V)} {d : List (PyData × PyData)}, DtKV S q H n v d → DtKV (fun a => S a ∧ H a ≠ none) q H n v d
  | _, _, _, .nil => .nil
  | _, _, _, .cons a b => .cons (Dt.inH a) (DtKV.inH b)
end
end Fm

namespace Fm
open PySem PySem.Spec PyProof.Rows L2
def spAlike (n : Nat) : Sp := fun vs H Q _ => ∃ (S S' : Addr → Prop) (x y : V) (d : PyData), vs = [x, y] ∧ Dt S true H n x d ∧ Dt S' false H n y d ∧ ∀ H', Kp [] H H' → Q (.bl true) H'
def spAlikeB : Nat → Sp
  | 0 => fun _ _ _ _ => False
  | n + 1 => spAlike n
theorem reps_snoc (i : Nat) : (List.replicate i true).map V.bl ++ [V.bl true] = (List.replicate (i + 1) true).map V.bl := by
  rw [List.replicate_succ', List.map_append]; rfl
theorem reps_all (i : Nat) : (List.replicate i true).all id = true := by
  rw [List.all_eq_true]
  intro x hx
  rw [(List.mem_replicate.mp hx).2]; rfl
section
variable {P : Program} {w : World} {K : PySem.W.Frag} {mg : Str → Option Value} {base : Heap}
theorem step_alike (B : Bi mg) (D : Dfn K mg "_law_alike" s__law_alike ["_law_one", "_law_other"]) (n : Nat) (G_alike : Has P w K mg base CX0 "_law_alike" ["_law_one", "_law_other"] n (spAlikeB n)) :
    Has P w K mg base CX0 "_law_alike" ["_law_one", "_law_other"] (n + 1) (spAlike n) := by
  refine D.has sc__law_alike (fun vs H Q E h => ?_) (fun f cdv A outer s H vs Q E hr h => ?_)
  · obtain ⟨S, S', x, y, d, rfl, _⟩ := h; rfl
  · obtain ⟨S, S', x, y, d, rfl, hx, hy, k⟩ := h
    have hu := hu_of hr
    refine ⟨_, (pss_cons (ps_if (pt_val (pe_callB call_isiT (by rfl) B.isinstance (by decide +kernel) (pa_cons (pv 0) (pa_cons (pe_tup (pa_cons (pe_bltn (v := .ty "list") (by rfl) B.list (by decide +kernel) rfl) (pa_cons (pe_bltn (v := .ty "tuple") (by rfl) B.tuple (by decide +kernel) rfl) pa_nil))) pa_nil))))
  (pss_cons (ps_if (PW.pt (pw_or (pt_cmpR op_ne (pe_callB call_isi (by rfl) B.isinstance (by decide +kernel) (pa_cons (pv 0) (pa_cons (pe_bltn (v := .ty "list") (by rfl) B.list (by decide +kernel) rfl) pa_nil))) (pe_callB call_isi (by rfl) B.isinstance (by decide +kernel) (pa_cons (pv 1) (pa_cons (pe_bltn (v := .ty "list") (by rfl) B.list (by decide +kernel) rfl) pa_nil))) (nomark _)) (pw_or1 (pt_cmpR op_ne (pe_callB call_isi (by rfl) B.isinstance (by decide +kernel) (pa_cons (pv 0) (pa_cons (pe_bltn (v := .ty "tuple") (by rfl) B.tuple (by decide +kernel) rfl) pa_nil))) (pe_callB call_isi (by rfl) B.isinstance (by decide +kernel) (pa_cons (pv 1) (pa_cons (pe_bltn (v := .ty "tuple") (by rfl) B.tuple (by decide +kernel) rfl) pa_nil))) (nomark _)))))
  (pss_one (ps_ret pe_bl))
  pss_nil)
  (pss_cons (ps_if (pt_cmpR op_ne (pe_callB call_len (by rfl) B.len PySem.boot_len (pa_cons (pv 0) pa_nil)) (pe_callB call_len (by rfl) B.len PySem.boot_len (pa_cons (pv 1) pa_nil)) (nomark _))
  (pss_one (ps_ret pe_bl))
  pss_nil)
  (pss_one (ps_ret (pe_callB (cr_all rfl) (by rfl) B.all (by decide +kernel) (pa_cons (pe_lc (own := [("_law_k", 2)]) (g := gName 2) (by rfl) sc__law_alike.nd (pi_range1 rfl B.range (pa_cons (pe_callB call_len (by rfl) B.len PySem.boot_len (pa_cons (pv 0) pa_nil)) pa_nil)) (blkOk_by (own := [("_law_k", 2)]) (N := N__law_alike) (sc := defScope s__law_alike) (by decide +kernel)) (fun _ _ _ _ _ => (pg_name (i := 2) sc__law_alike.nd rfl (by first | exact Or.inl rfl | exact Or.inr rfl))) (fun _ _ _ _ _ => pts_nil) (fun _ _ _ _ _ => (pe_has G_alike hr (pa_cons (pe_ix (r := rIx K) ix_seq (pv 0) (pv 2) (fun _ _ => rfl)) (pa_cons (pe_ix (r := rIx K) ix_seq (pv 1) (pv 2) (fun _ _ => rfl)) pa_nil))))) pa_nil))))))
  pss_nil)
  (pss_cons (ps_if (PW.pt (pw_and (pt_val (pe_callB call_isi (by rfl) B.isinstance (by decide +kernel) (pa_cons (pv 0) (pa_cons (pe_bltn (v := .ty "dict") (by rfl) B.dict (by decide +kernel) rfl) pa_nil)))) (pw_and1 (pt_val (pe_callB call_isi (by rfl) B.isinstance (by decide +kernel) (pa_cons (pv 1) (pa_cons (pe_bltn (v := .ty "dict") (by rfl) B.dict (by decide +kernel) rfl) pa_nil)))))))
  (pss_cons (ps_if (pt_cmpR op_ne (pe_callB call_lenR (by rfl) B.len PySem.boot_len (pa_cons (pv 0) pa_nil)) (pe_callB call_lenR (by rfl) B.len PySem.boot_len (pa_cons (pv 1) pa_nil)) (nomark _))
  (pss_one (ps_ret pe_bl))
  pss_nil)
  (pss_one (ps_ret (pe_callB (cr_all rfl) (by rfl) B.all (by decide +kernel) (pa_cons (pe_lock (pe_lc (own := [("_law_key", 3)]) (g := gName 3) (by rfl) sc__law_alike.nd (pi_keys (pv 0)) (blkOk_by (own := [("_law_key", 3)]) (N := N__law_alike) (sc := defScope s__law_alike) (by decide +kernel)) (fun _ _ _ _ _ => (pg_name (i := 3) sc__law_alike.nd rfl (by first | exact Or.inl rfl | exact Or.inr rfl))) (fun _ _ _ _ _ => pts_nil) (fun _ _ _ _ _ => (pe_and (pe_cmp (pc_din hu (pv 3) (pv 1)) rfl) (pe_one (pe_has G_alike hr (pa_cons (pe_dget hu (pv 0) (pv 3) (fun _ _ => rfl)) (pa_cons (pe_dget1 hu (pv 1) (pv 3) ⟨rfl, rfl, rfl, rfl⟩) pa_nil)))))))) pa_nil)))))
  pss_nil)
  (pss_one (ps_ret (pe_and (pe_cmpR op_eq (pe_callB call_isi (by rfl) B.isinstance (by decide +kernel) (pa_cons (pv 0) (pa_cons (pe_bltn (v := .ty "bool") (by rfl) B.bool (by decide +kernel) rfl) pa_nil))) (pe_callB call_isi (by rfl) B.isinstance (by decide +kernel) (pa_cons (pv 1) (pa_cons (pe_bltn (v := .ty "bool") (by rfl) B.bool (by decide +kernel) rfl) pa_nil))) (nomark _)) (pe_one (pe_cmpR op_eq (pv 0) (pv 1) (nomark _)))))))), ?_⟩
    -- isinstance(one, (list, tuple))
    refine ⟨_, rfl, (by show 2 ≤ sizeLine; decide), fun T hT => ⟨_, T, _, _, _, _, rfl, upd_same, .cons (.ty _) (.cons (.ty _) .nil), (hx.keep (Kp.new hT)).ty, kit_row _, _, rfl, ?_⟩⟩
    have hx1 := hx.keep (Kp.new (o := .tup [.ty "list", .ty "tuple"]) hT)
    have hy1 := hy.keep (Kp.new (o := .tup [.ty "list", .ty "tuple"]) hT)
    have k1 : Kp [] H (upd H T (.tup [.ty "list", .ty "tuple"])) := Kp.new hT
    generalize upd H T (.tup [.ty "list", .ty "tuple"]) = H1 at hx1 hy1 k1 ⊢
    cases d with
    | list ds =>
      refine iteT ?_
      cases hx1 with
      | @lst m p xs _ rx lx ax =>
        cases hy1 with
        | @lst _ p' ys _ ry ly ay =>
          have hx1 : Dt S true H1 (m + 1) (.ref p) (.list ds) := .lst rx lx ax
          have hy1 : Dt S' false H1 (m + 1) (.ref p') (.list ds) := .lst ry ly ay
          have hl : xs.length = ys.length := ax.len.trans ay.len.symm
          refine ⟨_, rfl, _, _, _, _, _, rfl, .ty _, hx1.ty, kit_ty (kb_list _), _, rfl, _, _, _, _, _, rfl, .ty _, hy1.ty, kit_ty (kb_list _), rfl, _, rfl, iteF ?_⟩
          refine ⟨_, rfl, _, _, _, _, _, rfl, .ty _, hx1.ty, kit_ty (kb_tuple _), _, rfl, _, _, _, _, _, rfl, .ty _, hy1.ty, kit_ty (kb_tuple _), rfl, _, rfl, iteF ?_⟩
          refine ⟨_, rfl, _, _, rfl, .inl ⟨_, .inl rx, rfl⟩, _, rfl, _, _, rfl, .inl ⟨_, .inl ry, rfl⟩, rfl, _, rfl, ?_⟩
          refine iteNS (by rw [hl]) ?_
          refine ⟨_, rfl, _, _, rfl, .inl ⟨_, .inl rx, rfl⟩, (xs.length : Int), rfl, by omega, (by have := lx.1; omega), fun D hD => ?_⟩
          have hDH : H D = none := by
            cases e : H D with
            | none => rfl
            | some o => rw [k1.at_ D o e (fun z => nomatch z)] at hD; cases hD
          refine lc_range (lo := 0) (n := (xs.length : Int).toNat) (fun i H' => H' D = some (.lst ((List.replicate i true).map V.bl)) ∧ Kp [] H1 H') ⟨upd_same, Kp.new hD⟩ ?_ ?_
          · rintro i H2 hi ⟨h2, k2⟩
            have hi' : i < xs.length := by omega
            obtain ⟨u, hu1⟩ : ∃ u, xs[i]? = some u := ⟨xs[i], List.getElem?_eq_getElem hi'⟩
            obtain ⟨d, hd, du⟩ := ax.getV hu1
            obtain ⟨v, hv1, dv⟩ := ay.get hd
            have e0 : (0 + (i : Int)).toNat = i := by omega
            refine ⟨rfl, _, rfl, _, rfl, .inl ⟨_, _, _, u, rfl, rfl, .inl (k2.rd (fun z => nomatch z) rx), atI_of (by omega) (by rw [e0]; exact hu1), ?_⟩⟩
            refine ⟨_, rfl, _, rfl, .inl ⟨_, _, _, v, rfl, rfl, .inl (k2.rd (fun z => nomatch z) ry), atI_of (by omega) (by rw [e0]; exact hv1), ?_⟩⟩
            refine ⟨S, S', u, v, d, rfl, du.keep k2, dv.keep k2, fun H3 k3 => ?_⟩
            refine ⟨_, k3.at_ _ _ h2 (fun z => nomatch z), ?_, ?_, (k2.trans k3).late hD⟩
            · rw [List.length_map, List.length_replicate]
              exact Nat.lt_of_lt_of_le hi' (Nat.le_trans lx.1 (by decide))
            · rw [upd_same, reps_snoc]
          · rintro H2 ⟨h2, k2⟩
            refine ⟨D, _, rfl, SqL.of h2, ?_⟩
            rw [reps_all]
            exact k H2 (k1.trans k2)
    | tuple ds =>
      refine iteT ?_
      cases hx1 with
      | @tup m p xs _ rx lx ax =>
        cases hy1 with
        | @tup _ p' ys _ ry ly ay =>
          have hx1 : Dt S true H1 (m + 1) (.ref p) (.tuple ds) := .tup rx lx ax
          have hy1 : Dt S' false H1 (m + 1) (.ref p') (.tuple ds) := .tup ry ly ay
          have hl : xs.length = ys.length := ax.len.trans ay.len.symm
          refine ⟨_, rfl, _, _, _, _, _, rfl, .ty _, hx1.ty, kit_ty (kb_list _), _, rfl, _, _, _, _, _, rfl, .ty _, hy1.ty, kit_ty (kb_list _), rfl, _, rfl, iteF ?_⟩
          refine ⟨_, rfl, _, _, _, _, _, rfl, .ty _, hx1.ty, kit_ty (kb_tuple _), _, rfl, _, _, _, _, _, rfl, .ty _, hy1.ty, kit_ty (kb_tuple _), rfl, _, rfl, iteF ?_⟩
          refine ⟨_, rfl, _, _, rfl, .inr ⟨_, .inl (.inl rx), rfl⟩, _, rfl, _, _, rfl, .inr ⟨_, .inl (.inl ry), rfl⟩, rfl, _, rfl, ?_⟩
          refine iteNS (by rw [hl]) ?_
          refine ⟨_, rfl, _, _, rfl, .inr ⟨_, .inl (.inl rx), rfl⟩, (xs.length : Int), rfl, by omega, (by have := lx.1; omega), fun D hD => ?_⟩
          have hDH : H D = none := by
            cases e : H D with
            | none => rfl
            | some o => rw [k1.at_ D o e (fun z => nomatch z)] at hD; cases hD
          refine lc_range (lo := 0) (n := (xs.length : Int).toNat) (fun i H' => H' D = some (.lst ((List.replicate i true).map V.bl)) ∧ Kp [] H1 H') ⟨upd_same, Kp.new hD⟩ ?_ ?_
          · rintro i H2 hi ⟨h2, k2⟩
            have hi' : i < xs.length := by omega
            obtain ⟨u, hu1⟩ : ∃ u, xs[i]? = some u := ⟨xs[i], List.getElem?_eq_getElem hi'⟩
            obtain ⟨d, hd, du⟩ := ax.getV hu1
            obtain ⟨v, hv1, dv⟩ := ay.get hd
            have e0 : (0 + (i : Int)).toNat = i := by omega
            refine ⟨rfl, _, rfl, _, rfl, .inr (.inl ⟨_, _, _, u, rfl, rfl, .inl (.inl (k2.tp _ _ rx)), atI_of (by omega) (by rw [e0]; exact hu1), ?_⟩)⟩
            refine ⟨_, rfl, _, rfl, .inr (.inl ⟨_, _, _, v, rfl, rfl, .inl (.inl (k2.tp _ _ ry)), atI_of (by omega) (by rw [e0]; exact hv1), ?_⟩)⟩
            refine ⟨S, S', u, v, d, rfl, du.keep k2, dv.keep k2, fun H3 k3 => ?_⟩
            refine ⟨_, k3.at_ _ _ h2 (fun z => nomatch z), ?_, ?_, (k2.trans k3).late hD⟩
            · rw [List.length_map, List.length_replicate]
              exact Nat.lt_of_lt_of_le hi' (Nat.le_trans lx.1 (by decide))
            · rw [upd_same, reps_snoc]
          · rintro H2 ⟨h2, k2⟩
            refine ⟨D, _, rfl, SqL.of h2, ?_⟩
            rw [reps_all]
            exact k H2 (k1.trans k2)
    | dict ds =>
      refine iteF ?_
      cases hx1 with
      | @dic m p kvs _ rx lx ax =>
        cases hy1 with
        | @dic _ p' lvs _ ry ly ay =>
          have hx1 : Dt S true H1 (m + 1) (.ref p) (.dict ds) := .dic rx lx ax
          have hy1 : Dt S' false H1 (m + 1) (.ref p') (.dict ds) := .dic ry ly ay
          have rx' : H1 p = some (.dK kvs) := rx
          have ry' : Rd H1 p' (.dK lvs) := ry
          have hl : kvs.length = lvs.length := ax.len.trans ay.len.symm
          refine ⟨_, rfl, _, _, _, _, _, rfl, .ty _, hx1.ty, kit_ty (kb_dict _), _, rfl, iteT ?_⟩
          refine ⟨_, rfl, _, _, _, _, _, rfl, .ty _, hy1.ty, kit_ty (kb_dict _), _, rfl, iteT ?_⟩
          refine ⟨_, rfl, _, _, rfl, .inl rx', _, rfl, _, _, rfl, ry', rfl, _, rfl, ?_⟩
          refine iteNS (by rw [hl]) ?_
          refine ⟨p, _, rx', trivial, fun od => ?_⟩
          have sl : Sm H1 (upd H1 p (.frz od (.dK kvs))) := Sm.lock rx' (fun _ _ z => by cases z) (fun _ z => by cases z)
          refine ⟨_, rfl, p, od, rfl, .inl ⟨kvs, upd_same, fun D hD => ?_⟩⟩
          have Dp : D ≠ p := fun z => by rw [z, upd_same] at hD; cases hD
          have hD1 : H1 D = none := by rw [upd_ne Dp] at hD; exact hD
          refine lc_it (walk_keys (kvs := kvs)) (fun i H' => H' D = some (.lst ((List.replicate i true).map V.bl)) ∧ Kp [] (upd H1 p (.frz od (.dK kvs))) H') ⟨upd_same, Kp.new hD⟩ ?_ ?_ ?_
          · rintro i H2 hi ⟨h2, k2⟩
            exact k2.at_ p _ upd_same (fun z => nomatch z)
          · rintro i xk H2 H3 hi ⟨h2, k2⟩ ⟨rfl, kk, vv, hk, rfl⟩
            have mk : kk ∈ kvs.map (·.1) := List.mem_map.mpr ⟨(kk, vv), List.mem_of_getElem? hk, rfl⟩
            obtain ⟨u, v, e, hu1, hv1, du, dv, hs⟩ := ax.val ay kk mk
            have rd1 : Rd H3 p (.dK kvs) := .inr ⟨od, k2.at_ p _ upd_same (fun z => nomatch z)⟩
            have rd2 : Rd H3 p' (.dK lvs) := k2.rd (fun z => nomatch z) (sl.rd ry')
            refine ⟨rfl, _, rfl, _, rfl, p', some v, rfl, .inl ⟨lvs, kk, rd2, rfl, hv1.symm⟩, _, rfl, iteT ?_⟩
            refine ⟨_, rfl, _, rfl, p, u, rfl, .inl ⟨kvs, kk, rd1, rfl, hu1.symm⟩, ?_⟩
            refine ⟨_, rfl, p', rfl, .inl ⟨lvs, rd2⟩, _, rfl, some v, .inl ⟨lvs, kk, rd2, rfl, hv1.symm⟩, ?_⟩
            refine ⟨S, S', u, v, e, rfl, (du.lock rx' lx ax.weak hs).keep k2, (dv.sm sl).keep k2, fun H4 k4 => ?_⟩
            refine ⟨_, k4.at_ _ _ h2 (fun z => nomatch z), ?_, ?_, (k2.trans k4).late hD⟩
            · rw [List.length_map, List.length_replicate]
              exact Nat.lt_of_lt_of_le hi (Nat.le_trans lx.1.1 (by decide))
            · rw [upd_same, reps_snoc]
          · rintro H2 ⟨h2, k2⟩
            refine ⟨k2.at_ p _ upd_same (fun z => nomatch z), ?_⟩
            refine ⟨D, _, rfl, SqL.of (by rw [upd_ne Dp]; exact h2), ?_⟩
            rw [reps_all]
            refine k _ (k1.trans ⟨fun a o e _ => ?_, fun a xs e => ?_⟩)
            · by_cases z : a = p
              · rw [z, upd_same]; rw [z, rx'] at e; exact e
              · rw [upd_ne z]; exact k2.at_ a o (by rw [upd_ne z]; exact e) (fun z => nomatch z)
            · by_cases z : a = p
              · rw [z, rx'] at e; cases e
              · rw [upd_ne z]; exact k2.tp a xs (by rw [upd_ne z]; exact e)
    | none =>
      refine iteF ?_
      cases hx1
      cases hy1
      refine ⟨_, rfl, _, _, _, _, _, rfl, .ty _, (Dt.non (S := S) (q := true) (H := H1) (n := 0)).ty, kit_ty (kb_dict _), _, rfl, iteF ?_⟩
      refine iteF ?_
      refine ⟨_, rfl, _, _, _, _, _, rfl, .ty _, (Dt.non (S := S) (q := true) (H := H1) (n := 0)).ty, kit_ty (kb_bool _), _, rfl, _, _, _, _, _, rfl, .ty _, (Dt.non (S := S) (q := true) (H := H1) (n := 0)).ty, kit_ty (kb_bool _), rfl, _, rfl, iteT ?_⟩
      refine ⟨_, rfl, _, rfl, rfl, ?_⟩
      rw [decide_eq_true rfl]
      exact k H1 k1
    | bool b =>
      refine iteF ?_
      cases hx1
      cases hy1
      refine ⟨_, rfl, _, _, _, _, _, rfl, .ty _, (Dt.bl (S := S) (q := true) (H := H1) (n := 0) b).ty, kit_ty (kb_dict _), _, rfl, iteF ?_⟩
      refine iteF ?_
      refine ⟨_, rfl, _, _, _, _, _, rfl, .ty _, (Dt.bl (S := S) (q := true) (H := H1) (n := 0) b).ty, kit_ty (kb_bool _), _, rfl, _, _, _, _, _, rfl, .ty _, (Dt.bl (S := S) (q := true) (H := H1) (n := 0) b).ty, kit_ty (kb_bool _), rfl, _, rfl, iteT ?_⟩
      refine ⟨_, rfl, _, rfl, rfl, ?_⟩
      rw [decide_eq_true rfl]
      exact k H1 k1
    | int i =>
      refine iteF ?_
      cases hx1
      cases hy1
      refine ⟨_, rfl, _, _, _, _, _, rfl, .ty _, (Dt.int (S := S) (q := true) (H := H1) (n := 0) i).ty, kit_ty (kb_dict _), _, rfl, iteF ?_⟩
      refine iteF ?_
      refine ⟨_, rfl, _, _, _, _, _, rfl, .ty _, (Dt.int (S := S) (q := true) (H := H1) (n := 0) i).ty, kit_ty (kb_bool _), _, rfl, _, _, _, _, _, rfl, .ty _, (Dt.int (S := S) (q := true) (H := H1) (n := 0) i).ty, kit_ty (kb_bool _), rfl, _, rfl, iteT ?_⟩
      refine ⟨_, rfl, _, rfl, rfl, ?_⟩
      rw [decide_eq_true rfl]
      exact k H1 k1
    | str z =>
      refine iteF ?_
      cases hx1 with
      | str _ hz =>
      cases hy1
      refine ⟨_, rfl, _, _, _, _, _, rfl, .ty _, (Dt.str (S := S) (q := true) (H := H1) (n := 0) z hz).ty, kit_ty (kb_dict _), _, rfl, iteF ?_⟩
      refine iteF ?_
      refine ⟨_, rfl, _, _, _, _, _, rfl, .ty _, (Dt.str (S := S) (q := true) (H := H1) (n := 0) z hz).ty, kit_ty (kb_bool _), _, rfl, _, _, _, _, _, rfl, .ty _, (Dt.str (S := S) (q := true) (H := H1) (n := 0) z hz).ty, kit_ty (kb_bool _), rfl, _, rfl, iteT ?_⟩
      refine ⟨_, rfl, _, rfl, rfl, ?_⟩
      rw [decide_eq_true rfl]
      exact k H1 k1
theorem ok_alike (B : Bi mg) (D : Dfn K mg "_law_alike" s__law_alike ["_law_one", "_law_other"]) : ∀ n : Nat, Has P w K mg base CX0 "_law_alike" ["_law_one", "_law_other"] (n + 1) (spAlike n)
  | 0 => step_alike B D 0 D.none
  | n + 1 => step_alike B D (n + 1) (ok_alike B D n)
end
end Fm

namespace Fm
open PySem PySem.Spec PyProof.Rows L2
/-- some data, new -/
def spOdd : Sp := fun vs H Q _ => ∃ (b c : Addr), vs = [.ref b] ∧ Bag H b c ∧ ∀ v d H', Bag H' b c → Kp [b] H H' → Dt (fun a => H a = none) true H' 3 v d → Q v H'
theorem len_le {w : Str} (n : Nat) (h : w.length = n) (hn : n ≤ 1000000) : w.length ≤ 1000000 := by rw [h]; exact hn
section
variable {P : Program} {w : World} {K : PySem.W.Frag} {mg : Str → Option Value} {base : Heap}
theorem ok_odd (B : Bi mg) (D : Dfn K mg "_law_odd" s__law_odd ["_law_bag_here"]) (G_pick : Has P w K mg base CX0 "_law_pick" ["_law_bag_here", "_law_many"] 1 spPick) :
    Has P w K mg base CX0 "_law_odd" ["_law_bag_here"] 2 spOdd := by
  refine D.has sc__law_odd (fun vs H Q E h => ?_) (fun f cdv A outer s H vs Q E hr h => ?_)
  · obtain ⟨b, c, rfl, _⟩ := h; rfl
  · obtain ⟨b, c, rfl, BG, k⟩ := h
    refine ⟨_, (pss_cons (ps_set (i := 1) sc__law_odd.nd rfl (by first | exact Or.inl rfl | exact Or.inr rfl) (pe_op op_sub (pe_has G_pick hr (pa_cons (pv 0) (pa_cons pe_int pa_nil))) pe_int))
  (C8.pss_cut (ps_set (i := 2) sc__law_odd.nd rfl (by first | exact Or.inl rfl | exact Or.inr rfl) (pe_lst (pa_cons pe_non (pa_cons pe_bl (pa_cons pe_bl (pa_cons pe_str (pa_cons pe_str (pa_cons pe_str (pa_cons pe_str (pa_cons pe_str (pa_cons pe_str (pa_cons (pe_tup pa_nil) (pa_cons (pe_lst pa_nil) (pa_cons pe_dnewK (pa_cons (pe_disp (pps_cons pe_str (pe_lst (pa_cons pe_int pa_nil)) pps_nil) (by rfl) (by rfl) (fun z => by cases z) (by decide)) (pa_cons (pe_tup (pa_cons pe_str (pa_cons pe_str (pa_cons pe_str pa_nil)))) (pa_cons (pe_lst (pa_cons pe_int (pa_cons pe_int pa_nil))) pa_nil)))))))))))))))))
  (C8.pss_cut (ps_expr (pe_bm PySem.F.plainAttrs_list PySem.F.slot_list_extend PySem.F.type_list_extend mt_extend (pv 2) (pa_cons (pe_lst (pa_cons (pe_op op_add (pe_op op_pow pe_int pe_int) pe_int) (pa_cons (pe_op op_sub (pe_op op_sub pe_int (pe_op op_pow pe_int pe_int)) pe_int) (pa_cons (pe_op op_add (pe_op op_pow pe_int pe_int) (pv 1)) (pa_cons (pv 1) (pa_cons (pe_tup (pa_cons (pv 1) (pa_cons (pe_tup pa_nil) pa_nil))) (pa_cons (pe_lst (pa_cons (pe_lst (pa_cons (pv 1) pa_nil)) pa_nil)) (pa_cons (pe_tup (pa_cons pe_str pa_nil)) (pa_cons pe_str pa_nil))))))))) pa_nil)))
  (pss_one (ps_ret (pe_ix ix_list (pv 2) (pe_has G_pick hr (pa_cons (pv 0) (pa_cons (pe_callB call_len (by rfl) B.len PySem.boot_len (pa_cons (pv 2) pa_nil)) pa_nil))) (fun _ _ => rfl))))))), ?_⟩
    refine ⟨_, rfl, b, c, 9, rfl, BG, by decide, by decide, fun r H1 r0 r1 B1 k1 => ?_⟩
    refine ⟨_, _, rfl, rfl, ?_⟩
    obtain ⟨z, hz⟩ : ∃ z, z = r - 4 := ⟨_, rfl⟩
    -- the first row of things
    refine ⟨fun σ H' => ∃ (l : Addr) (xs : List V) (ds : List PyData), σ = [some (.ref b), some (.int z), some (.ref l)] ∧ H' l = some (.lst xs) ∧ xs.length = 15 ∧ H1 l = none ∧ DtAll (fun a => H1 a = none ∧ a ≠ l) true H' 2 xs ds ∧ Kp [] H1 H', ?_, ?_⟩
    · refine ⟨by show 0 ≤ sizeLine; decide, fun p1 n1 => ⟨by show 0 ≤ sizeLine; decide, fun p2 n2 p3 n3 p4 n4 => ⟨by show 1 ≤ sizeLine; decide, fun p5 n5 => ?_⟩⟩⟩
      have a1 : Dt (fun a => H1 a = none) true _ 2 (.ref p1) (.tuple []) := .tup (upd_same (H := H1) (o := .tup [])) ⟨Nat.zero_le _, n1⟩ .nil
      have k2 : Kp [] H1 _ := Kp.new (o := .tup []) n1
      have a2 : Dt (fun a => H1 a = none) true _ 2 (.ref p2) (.list []) := .lst (.inl (upd_same (H := upd H1 p1 (.tup [])) (o := .lst []))) ⟨Nat.zero_le _, k2.same.free n2⟩ .nil
      have a1 := a1.keep (Kp.new (o := .lst []) n2)
      have k3 := k2.snoc (o := .lst []) n2
      have a3 : Dt (fun a => H1 a = none) true _ 2 (.ref p3) (.dict []) := .dic (show upd _ p3 _ p3 = _ from upd_same (H := upd (upd H1 p1 (.tup [])) p2 (.lst [])) (o := .dK [])) ⟨⟨Nat.zero_le _, List.nodup_nil⟩, k3.same.free n3⟩ .nil
      have a1 := a1.keep (Kp.new (o := .dK []) n3)
      have a2 := a2.keep (Kp.new (o := .dK []) n3)
      have k4 := k3.snoc (o := .dK []) n3
      generalize hc : upd (upd (upd H1 p1 (.tup [])) p2 (.lst [])) p3 (.dK []) = Hc at a1 a2 a3 k4 n4 n5
      have kd : Kp [] Hc (upd (upd (upd Hc p4 (.dK [])) p5 (.lst [.int 1])) p4 (.dK [(.inr "a", .ref p5)])) := ((Kp.new n4).snoc n5).late n4
      have n54 : p5 ≠ p4 := fun z => by rw [z, upd_same] at n5; cases n5
      have m4 : H1 p4 = none := k4.same.free n4
      have m5 : H1 p5 = none := by rw [upd_ne n54] at n5; exact k4.same.free n5
      have a5 : Dt (fun a => H1 a = none) true (upd (upd (upd Hc p4 (.dK [])) p5 (.lst [.int 1])) p4 (.dK [(.inr "a", .ref p5)])) 1 (.ref p5) (.list [.int 1]) := .lst (.inl (by rw [upd_ne n54, upd_same])) ⟨by simp, m5⟩ (.cons (.int 1) .nil)
      have a4 : Dt (fun a => H1 a = none) true (upd (upd (upd Hc p4 (.dK [])) p5 (.lst [.int 1])) p4 (.dK [(.inr "a", .ref p5)])) 2 (.ref p4) (.dict [(keyD (.inr "a"), .list [.int 1])]) := .dic (show upd _ p4 _ p4 = _ from upd_same) ⟨⟨by simp, by simp⟩, m4⟩ (.cons a5 .nil)
      have a1 := a1.keep kd
      have a2 := a2.keep kd
      have a3 := a3.keep kd
      have k5 := k4.trans kd
      subst hc
      refine ⟨by rw [upd_ne (Ne.symm n54), upd_same], [(.inr "a", .ref p5)], rfl, by simp, ?_⟩
      refine ⟨by show 3 ≤ sizeLine; decide, fun p6 n6 => ?_⟩
      change (upd (upd (upd (upd (upd (upd H1 p1 (.tup [])) p2 (.lst [])) p3 (.dK [])) p4 (.dK [])) p5 (.lst [.int 1])) p4 (.dK [(.inr "a", .ref p5)])) p6 = none at n6
      generalize hd : (upd (upd (upd (upd (upd (upd H1 p1 (.tup [])) p2 (.lst [])) p3 (.dK [])) p4 (.dK [])) p5 (.lst [.int 1])) p4 (.dK [(.inr "a", .ref p5)])) = Hd at a1 a2 a3 a4 k5 n6
      have a6 : Dt (fun a => H1 a = none) true (upd Hd p6 (.tup [.str "of", .str "a", .str "b"])) 2 (.ref p6) (.tuple [.str "of", .str "a", .str "b"]) := .tup upd_same ⟨by simp, k5.same.free n6⟩ (.cons (.str _ (by decide +kernel)) (.cons (.str _ (by decide +kernel)) (.cons (.str _ (by decide +kernel)) .nil)))
      have ky : Kp [] Hd (upd Hd p6 (.tup [.str "of", .str "a", .str "b"])) := Kp.new n6
      subst hd
      refine ⟨by show 2 ≤ sizeLine; decide, fun p7 n7 => ?_⟩
      change (upd (upd (upd (upd (upd (upd (upd H1 p1 (.tup [])) p2 (.lst [])) p3 (.dK [])) p4 (.dK [])) p5 (.lst [.int 1])) p4 (.dK [(.inr "a", .ref p5)])) p6 (.tup [.str "of", .str "a", .str "b"])) p7 = none at n7
      have k6 := k5.trans ky
      have a1 := a1.keep ky
      have a2 := a2.keep ky
      have a3 := a3.keep ky
      have a4 := a4.keep ky
      generalize hd : (upd (upd (upd (upd (upd (upd (upd H1 p1 (.tup [])) p2 (.lst [])) p3 (.dK [])) p4 (.dK [])) p5 (.lst [.int 1])) p4 (.dK [(.inr "a", .ref p5)])) p6 (.tup [.str "of", .str "a", .str "b"])) = He at a1 a2 a3 a4 a6 k6 n7
      have a7 : Dt (fun a => H1 a = none) true (upd He p7 (.lst [.int 1, .int 2])) 2 (.ref p7) (.list [.int 1, .int 2]) := .lst (.inl upd_same) ⟨by simp, k6.same.free n7⟩ (.cons (.int _) (.cons (.int _) .nil))
      have kz : Kp [] He (upd He p7 (.lst [.int 1, .int 2])) := Kp.new n7
      have k7 := k6.trans kz
      have a1 := a1.keep kz
      have a2 := a2.keep kz
      have a3 := a3.keep kz
      have a4 := a4.keep kz
      have a6 := a6.keep kz
      subst hd
      refine ⟨by show 15 ≤ sizeLine; decide, fun l nl => ?_⟩
      have all : DtAll (fun a => H1 a = none) true _ 2 [.non, .bl true, .bl false, .str "", .str "Ab", .str "a b", .str "abcdefghi", .str "a_b", .str "z1", .ref p1, .ref p2, .ref p3, .ref p4, .ref p6, .ref p7] _ :=
        .cons .non (.cons (.bl _) (.cons (.bl _) (.cons (.str _ (by decide +kernel)) (.cons (.str _ (by decide +kernel)) (.cons (.str _ (by decide +kernel)) (.cons (.str _ (by decide +kernel)) (.cons (.str _ (by decide +kernel)) (.cons (.str _ (by decide +kernel)) (.cons a1 (.cons a2 (.cons a3 (.cons a4 (.cons a6 (.cons a7 .nil))))))))))))))
      have all' := all.inH.keepS (S' := fun a => H1 a = none ∧ a ≠ l) (H' := upd _ l (.lst [.non, .bl true, .bl false, .str "", .str "Ab", .str "a b", .str "abcdefghi", .str "a_b", .str "z1", .ref p1, .ref p2, .ref p3, .ref p4, .ref p6, .ref p7])) (fun a o _ e => (upd_ne (ne_of_none e nl)).trans e) fun a h => ⟨h.1, fun z => h.2 (by rw [z]; exact nl)⟩
      exact ⟨l, _, _, by rw [hz]; rfl, upd_same, rfl, k7.same.free nl, all', k7.snoc nl⟩
    · rintro σ' H2 ⟨l, xs, ds, rfl, h2, l2, nl, d2, k2⟩
      refine ⟨fun σ H' => ∃ (l : Addr) (xs : List V) (ds : List PyData), σ = [some (.ref b), some (.int z), some (.ref l)] ∧ H' l = some (.lst xs) ∧ xs.length = 23 ∧ H1 l = none ∧ DtAll (fun a => H1 a = none ∧ a ≠ l) true H' 3 xs ds ∧ Kp [] H1 H', ?_, ?_⟩
      · refine ⟨_, rfl, .inl ⟨rfl, _, SqL.of h2⟩, ?_⟩
        refine ⟨_, _, rfl, rfl, ⟨by decide, by decide, by decide⟩, _, _, rfl, rfl, ?_⟩
        refine ⟨_, _, rfl, rfl, ⟨by decide, by decide, by decide⟩, _, _, rfl, rfl, _, _, rfl, rfl, ?_⟩
        refine ⟨_, _, rfl, rfl, ⟨by decide, by decide, by decide⟩, _, rfl, _, _, rfl, rfl, _, rfl, ?_⟩
        -- (number, ())
        refine ⟨_, rfl, by show 0 ≤ sizeLine; decide, fun p1 n1 => ⟨by show 2 ≤ sizeLine; decide, fun p2 n2 => ?_⟩⟩
        have c1 : Dt (fun a => H1 a = none ∧ a ≠ l) true (upd H2 p1 (.tup [])) 1 (.ref p1) (.tuple []) := .tup upd_same ⟨Nat.zero_le _, k2.same.free n1, Ne.symm (ne_of_none h2 n1)⟩ .nil
        have k3 := k2.snoc (o := .tup []) n1
        have c2 : Dt (fun a => H1 a = none ∧ a ≠ l) true (upd (upd H2 p1 (.tup [])) p2 (.tup [.int z, .ref p1])) 2 (.ref p2) (.tuple [.int z, .tuple []]) := .tup upd_same ⟨by simp, k3.same.free n2, Ne.symm (ne_of_none ((Kp.new (o := .tup []) n1).at_ (ms := []) l _ h2 (fun z => nomatch z)) n2)⟩ (.cons (.int _) (.cons (c1.keep (Kp.new n2)) .nil))
        have k4 := k3.snoc (o := .tup [.int z, .ref p1]) n2
        have kk : Kp [] H2 (upd (upd H2 p1 (.tup [])) p2 (.tup [.int z, .ref p1])) := (Kp.new n1).snoc n2
        -- [[number]]
        refine ⟨_, rfl, by show 1 ≤ sizeLine; decide, fun p3 n3 => ⟨by show 1 ≤ sizeLine; decide, fun p4 n4 => ?_⟩⟩
        generalize hc : upd (upd H2 p1 (.tup [])) p2 (.tup [.int z, .ref p1]) = Hc at c2 k4 kk n3 n4
        have c3 : Dt (fun a => H1 a = none ∧ a ≠ l) true (upd Hc p3 (.lst [.int z])) 1 (.ref p3) (.list [.int z]) := .lst (.inl upd_same) ⟨by simp, k4.same.free n3, Ne.symm (ne_of_none (kk.at_ (ms := []) l _ h2 (fun z => nomatch z)) n3)⟩ (.cons (.int _) .nil)
        have k5 := k4.snoc (o := .lst [.int z]) n3
        have c4 : Dt (fun a => H1 a = none ∧ a ≠ l) true (upd (upd Hc p3 (.lst [.int z])) p4 (.lst [.ref p3])) 2 (.ref p4) (.list [.list [.int z]]) := .lst (.inl upd_same) ⟨by simp, k5.same.free n4, Ne.symm (ne_of_none ((kk.snoc (o := .lst [.int z]) n3).at_ (ms := []) l _ h2 (fun z => nomatch z)) n4)⟩ (.cons (c3.keep (Kp.new n4)) .nil)
        have k6 := k5.snoc (o := .lst [.ref p3]) n4
        have kk2 : Kp [] Hc (upd (upd Hc p3 (.lst [.int z])) p4 (.lst [.ref p3])) := (Kp.new n3).snoc n4
        have c2 := c2.keep kk2
        have kk := kk.trans kk2
        subst hc
        refine ⟨by show 1 ≤ sizeLine; decide, fun p5 n5 => ?_⟩
        generalize hc : upd (upd (upd (upd H2 p1 (.tup [])) p2 (.tup [.int z, .ref p1])) p3 (.lst [.int z])) p4 (.lst [.ref p3]) = Hd at c2 c4 k6 kk n5
        have c5 : Dt (fun a => H1 a = none ∧ a ≠ l) true (upd Hd p5 (.tup [.str "scan"])) 2 (.ref p5) (.tuple [.str "scan"]) := .tup upd_same ⟨by simp, k6.same.free n5, Ne.symm (ne_of_none (kk.at_ (ms := []) l _ h2 (fun z => nomatch z)) n5)⟩ (.cons (.str _ (by decide +kernel)) .nil)
        have k7 := k6.snoc (o := .tup [.str "scan"]) n5
        have kk3 : Kp [] Hd (upd Hd p5 (.tup [.str "scan"])) := Kp.new n5
        have c2 := c2.keep kk3
        have c4 := c4.keep kk3
        have kk := kk.trans kk3
        subst hc
        refine ⟨by show 8 ≤ sizeLine; decide, fun p6 n6 => ?_⟩
        generalize hc : upd (upd (upd (upd (upd H2 p1 (.tup [])) p2 (.tup [.int z, .ref p1])) p3 (.lst [.int z])) p4 (.lst [.ref p3])) p5 (.tup [.str "scan"]) = He at c2 c4 c5 k7 kk n6 ⊢
        have hl : He l = some (.lst xs) := kk.at_ _ _ h2 (fun z => nomatch z)
        have l6 : l ≠ p6 := ne_of_none hl n6
        refine ⟨l, p6, _, _, rfl, rfl, by rw [upd_ne l6]; exact hl, upd_same, by rw [l2]; show 15 + 8 ≤ sizeLine; decide, ?_⟩
        have all : DtAll (fun a => H1 a = none ∧ a ≠ l) true He 2 [.int (10 ^ 9 + 1), .int (0 - 10 ^ 9 - 1), .int (10 ^ 40 + z), .int z, .ref p2, .ref p4, .ref p5, .str "none"] _ :=
          .cons (.int _) (.cons (.int _) (.cons (.int _) (.cons (.int _) (.cons c2 (.cons c4 (.cons c5 (.cons (.str _ (by decide +kernel)) .nil)))))))
        have d3 : DtAll (fun a => H1 a = none ∧ a ≠ l) true He 2 xs ds := d2.keep kk
        have both := ((d3.append all).mono (Nat.le_succ 2)).inH.keepS (S' := fun a => H1 a = none ∧ a ≠ l) (H' := upd (upd He p6 (.lst [.int (10 ^ 9 + 1), .int (0 - 10 ^ 9 - 1), .int (10 ^ 40 + z), .int z, .ref p2, .ref p4, .ref p5, .str "none"])) l (.lst (xs ++ [.int (10 ^ 9 + 1), .int (0 - 10 ^ 9 - 1), .int (10 ^ 40 + z), .int z, .ref p2, .ref p4, .ref p5, .str "none"]))) (fun a o h e => by
          rw [upd_ne h.1.2, upd_ne (ne_of_none e n6)]; exact e) (fun a h => h.1)
        exact ⟨l, _, _, rfl, upd_same, by rw [List.length_append, l2]; rfl, nl, both, (k7.snoc n6).late nl⟩
      · rintro σ' H3 ⟨l, xs, ds, rfl, h3, l3, nl, d3, k3⟩
        have B3 := B1.keep0 k3
        refine ⟨_, rfl, _, rfl, _, rfl, _, _, rfl, .inl ⟨_, SqL.of h3, rfl⟩, ?_⟩
        refine ⟨b, c, _, rfl, B3, by rw [l3]; decide, by rw [l3]; decide, fun q H4 q0 q1 B4 k4 => ?_⟩
        have lb : l ≠ b := fun z => by
          obtain ⟨o, ho⟩ := B1.someB
          rw [← z, nl] at ho; cases ho
        have h4 : H4 l = some (.lst xs) := k4.at_ _ _ h3 (by simpa using lb)
        rw [l3] at q1
        have hq : q.toNat < xs.length := by omega
        obtain ⟨u, hu⟩ : ∃ u, xs[q.toNat]? = some u := ⟨xs[q.toNat], List.getElem?_eq_getElem hq⟩
        obtain ⟨d, hd, du⟩ := d3.getV hu
        refine ⟨l, _, q, u, rfl, rfl, SqL.of h4, atI_of q0 hu, ?_⟩
        have kb : Kp [b] H H4 := (k1.trans k3.zero).trans k4
        refine k u d H4 B4 kb (du.keepS (fun a o h e => k4.at_ a o e (by
          intro z
          have e' : a = b := by simpa using z
          obtain ⟨o', ho⟩ := B1.someB
          rw [← e', h.1] at ho; cases ho)) fun a h => ?_)
        exact k1.freeB B1 h.1
end
end Fm

namespace Fm
open PySem PySem.Spec PyProof.Rows L2
/-! ### an own error with one attribute -/
/-- what __init__(self, f) promises: self.f = f -/
def spErr (C : Addr) (f : Str) : Sp := fun vs H Q _ => ∃ (a : Addr) (y : V), vs = [.ref a, y] ∧ H a = some (exo a C none) ∧
  ∀ dx, H dx = none → dx ≠ a → Q .non (upd (upd H dx (exd dx [(f, y)])) a (exo a C (some dx)))
structure Err (P : Program) (w : World) (K : PySem.W.Frag) (mg : Str → Option Value) (base : Heap) (x : Str) (f : Str) (C : Addr) : Prop where
  oex : OexC K C
  gl : mg x = some (.ref C)
  ini : ∃ fI fd, PySem.W.findIn K (.ref C) "__init__" = some (some (.ref fI)) ∧ PySem.W.typeIn K (.ref fI) = some (.type "function") ∧ FnOk P w K mg base CX0 1 fI fd ["self", f] (spErr C f) ∧ Binds K fd ["self", f] []
  no : PySem.W.findIn K (.ref C) f = some none
  xf : XfC K C
theorem heap_err {H : Hp} {a d : Addr} {o1 o2 o3 o4 : HO} (ha : H a = none) (hd : d ≠ a) : upd (del (upd (upd (upd H a o1) d o2) a o3) a) d o4 = upd H d o4 := by
  funext b
  by_cases z : b = d
  · rw [z, upd_same, upd_same]
  · rw [upd_ne z, upd_ne z]
    by_cases y : b = a
    · rw [y, del_same, ha]
    · rw [del_ne y, upd_ne y, upd_ne z, upd_ne y]
/-- the end of C(v): the wish, told of the error's own new dict -/
theorem err_in {C : Addr} {f : Str} {v : V} {H1 : Hp} {a : Addr} {Q : XK} {E : XK} (ha : H1 a = none) (q : ∀ d, H1 d = none → Q (.ref C) (some d) (upd H1 d (.xd [(f, v)]))) :
    spErr C f [.ref a, v] (upd H1 a (exo a C none)) (fun u H2 => u = .non ∧ ∃ (d : Addr) (fs : List (Str × V)), H2 a = some (exo a C (some d)) ∧ H2 d = some (exd d fs) ∧ H1 d = none ∧ Q (.ref C) (some d) (upd (del H2 a) d (.xd fs))) E := by
  refine ⟨a, v, rfl, upd_same, fun dx hdx hne => ⟨rfl, dx, [(f, v)], upd_same, by rw [upd_ne hne, upd_same], ?_, ?_⟩⟩
  · rw [upd_ne hne] at hdx; exact hdx
  · rw [heap_err ha hne]
    rw [upd_ne hne] at hdx
    exact q dx hdx
section
variable {X : Cx}
/-- raise C(e) -/
theorem ps_raiseE {x f : Str} {C : Addr} {a : Expr} {ta : TA} {W : WX} {p pos pos2 : Pos} {k : Nat} (hc : X.calm = true) (T : Err X.prog X.w X.K X.mg X.base x f C) (hr : Room k X.A) (hk : 2 ≤ k) (tk : Takes X W) (ha : PA X [a] ta) (hg : Gl X x := by rfl)
    (hdb : (x == ("__debug__" : Str)) = false := by decide) (he : starEach (a :: []) X.env = (false, eval a X.env) :: starEach [] X.env := by rfl) (hpl : (backTo pos (starEach [] X.env)).any (·.1) = false := by rfl) :
    PS X (.Raise (some (.Call (.Name x p) [a] [] pos)) none pos2) (fun _ σ H => tMkO C (spErr C f) [] ta σ H fun cls d H' => W cls d σ H') := by
  obtain ⟨fI, fd, h1, h2, F, b⟩ := T.ini
  exact ps_raise hc tk (pmk_oex (k := 1) T.oex h1 h2 F (hr.mono hk) b .nil (fun _ _ _ _ _ _ _ z => z.elim) hg T.gl ha hdb he hpl)
end
section
variable {P : Program} {w : World} {K : PySem.W.Frag} {mg : Str → Option Value} {base : Heap}
/-- __init__ of an error whose body is self.f = f -/
theorem ok_err {f : Str} {qual : Str} {C fI : Addr} {fd : FuncData} {st : Stmt} (F : Fun K "__init__" qual st fI fd) (S : FnScope ["self", f] ["self", f] (defScope st)) (ox : OexC K C) (no : PySem.W.findIn K (.ref C) f = some none)
    (hb : ∀ (X : Cx), X.N = ([("self" : Str), f] : List Str) → X.env.scope = defScope st → PSs X (defBody st) (tOst X.K f (tVar 0) (tVar 1))) : FnOk P w K mg base CX0 1 fI fd ["self", f] (spErr C f) := by
  refine F.ok S (fun vs H Q E h => ?_) (fun cdv A outer s H vs Q E hr h => ⟨_, hb _ rfl rfl, ?_⟩)
  · obtain ⟨a, y, rfl, _⟩ := h; rfl
  · obtain ⟨a, y, rfl, ha, k⟩ := h
    exact ⟨_, rfl, _, rfl, a, C, rfl, ox, no, .inl ⟨ha, fun dx h1 h2 => k dx h1 h2⟩⟩
end
end Fm

namespace PySem
namespace HandSPX
open PySem.W PySem.Calls PyProof.Rows
section
variable {M : Model} {prog : Program} {w : World} {A : Around} {E : Value → Shared → Prop} {R : Result → Shared → Prop} {h : Heap} {g : Array GenState} {d : Drawn} {t : Nat} {os : OsState}
variable {nm q : Str} {C N : Addr} {bs bm bmB : List Value} {hdct : Bool} {sn : List Str} {sub : List Value} {ab : Bool} {col : Option Bool} {dd : Option Addr} {k0 k1 k2 k3 k5 : Option Value} {B newId initId : String} {kw : List (Str × Value)}
/-! an own error made with keywords: the base's maker passes them by -/
theorem fm_check_new (FX : ExcBaseFacts B newId initId bmB) (hT : ∀ Z : String, bm.contains (.type Z) = bmB.contains (.type Z)) {Q : Unit → Shared → Prop}
    (hC : h.get? C = some (excClassObj nm q C N bs bm hdct sn sub ab col dd k0 k1 k2 k3 k5 newId)) (z : Q () ⟨h, g, d, t, os⟩) : wpAny M A (checkBuiltinCall newId ⟨[.ref C], kw⟩) Q E ⟨h, g, d, t, os⟩ := by
  have c1 : (Value.ref C :: bm).contains (.type B) = true := by rw [List.contains_cons, hT, FX.hasB, Bool.or_true]
  have c2 := FX.noStar
  simp only [checkBuiltinCall, FX.newKind, FX.newSplit, FX.newRow]
  repeat (first
    | refine wpAny_loadPart_at hC ?_
    | (refine wpAny_isSubtype_exc hC ?_; rw [c1])
    | refine wpAny_staticBase_exc hC ?_
    | refine wpAny_madeBy_exc hC ?_
    | simp only [bne_self_eq_false, Bool.false_eq_true, if_false]
    | wp_step)
  exact z
theorem fm_new (FX : ExcBaseFacts B newId initId bmB) (hT : ∀ Z : String, bm.contains (.type Z) = bmB.contains (.type Z))
    (hC : h.get? C = some (excClassObj nm q C N bs bm hdct sn sub ab col dd k0 k1 k2 k3 k5 newId))
    (z : R (.ok (.ret (.ref (h.objs.size + 1)))) ⟨(h.push (W.kdv_tup [])).push (excO C h.objs.size), g, d, t, os⟩) :
    codeAny (model prog w) A (.builtin newId ⟨[.ref C], kw⟩) R ⟨h, g, d, t, os⟩ := by
  have e0 := FX.ends
  have c1 : (Value.ref C :: bm).contains (.type B) = true := by rw [List.contains_cons, hT, FX.hasB, Bool.or_true]
  have c2 : (Value.ref C :: bm).contains (.type "AttributeError") = false := by rw [List.contains_cons, hT, FX.noAttr]; rfl
  have c3 : (Value.ref C :: bm).contains (.type "NameError") = false := by rw [List.contains_cons, hT, FX.noName]; rfl
  have ln : ([] : List Value).length ≤ sizeLine := Nat.zero_le _
  refine codeAny_builtinAt FX.entry ?_
  unfold Builtin.«BaseException.__new__»
  refine wpAt_bind ?_
  show wpAt _ _ _ (stack >>= _) _ _ _
  refine wpAt_bind (wpAt_stack fun _ _ => wpAt_of_wpAny ?_)
  wp_walk
  refine wpAt_of_wpAny ?_
  rw [FX.owner]
  repeat (first
    | with_reducible refine wpAny_madeHere_exc FX.canon hC ?_
    | with_reducible refine wpAny_loadPart_at hC ?_
    | (with_reducible refine wpAny_isSubtype_exc hC ?_; first | rw [c1] | rw [c2] | rw [c3])
    | wp_step)
  show R _ _
  rw [Heap.size_push]
  exact z
theorem fm_type_call (FX : ExcBaseFacts B newId initId bmB) (hT : ∀ Z : String, bm.contains (.type Z) = bmB.contains (.type Z)) {fI : Addr} {Q : Fin → Shared → Prop}
    (hC : h.get? C = some (excClassObj nm q C N bs bm hdct sn sub ab col dd k0 k1 k2 k3 k5 newId))
    (hi : W.Looks (model prog w) h (typeLookup (.ref C) "__init__") (some (.ref fI))) (hb : ∀ self, W.Looks (model prog w) h (bindSpecial (.ref fI) self) (.ref fI, [self]))
    (z : codeAny (model prog w) A (.call (.ref fI) ⟨[.ref (h.objs.size + 1)], kw⟩)
      (fun r s' => match r with | .ok (.ret v) => v = .none ∧ Q (.done (.ret (.ref (h.objs.size + 1)))) s' | .ok _ => False | .error e => E e s')
      ⟨(h.push (W.kdv_tup [])).push (excO C h.objs.size), g, d, t, os⟩) :
    wpAny (model prog w) A (Builtin.«type.__call__» ⟨[.ref C], kw⟩) Q E ⟨h, g, d, t, os⟩ := by
  repeat (first | with_reducible refine wpAny_loadPart_at hC ?_ | with_reducible refine wpAny_madeBy_exc hC ?_ | wp_step)
  refine codeAny_call_builtin_code (Code.quiet_builtin _ FX.quiet) (fm_check_new FX hT hC ?_)
  refine fm_new FX hT hC ?_
  show wpAny _ _ _ _ _ _
  have kk : ∀ b o, h.get? b = some o → ((h.push (W.kdv_tup [])).push (excO C h.objs.size)).get? b = some o := fun b o e => Heap.get?_push_of_some _ (Heap.get?_push_of_some _ e)
  have g1 := kk _ _ hC
  have g2 : ((h.push (W.kdv_tup [])).push (excO C h.objs.size)).get? (h.objs.size + 1) = some (excO C h.objs.size) := by heap_get
  have c1 : (Value.ref C :: bm).contains (.ref C) = true := by simp
  have i1 := hi.keeps kk
  have b1 := (hb (.ref (h.objs.size + 1))).keeps kk
  unfold isInstance
  repeat (first | with_reducible refine wpAny_loadPart_at g2 ?_ | (with_reducible refine wpAny_isSubtype_exc g1 ?_; rw [c1]) | wp_step)
  show wpAny _ _ (typeLookup (.ref C) _) _ _ _
  refine i1.at ?_
  refine wpAny_holding (wpAny_bind (b1.at ?_))
  refine wpAny_bind (wpAny_call (codeAny_mono z fun r s' y => ?_))
  rcases r with e | (v | _ | _ | _) <;> first | exact y | exact y.elim | skip
  obtain ⟨rfl, y⟩ := y
  first
    | exact wpAny_pure (wpAny_pure y)
    | (wp_walk; exact y)
theorem fm_call_kw (FX : ExcBaseFacts B newId initId bmB) (hT : ∀ Z : String, bm.contains (.type Z) = bmB.contains (.type Z)) {fI : Addr}
    (hC : h.get? C = some (excClassObj nm q C N bs bm hdct sn sub ab col dd k0 k1 k2 k3 k5 newId))
    (hi : W.Looks (model prog w) h (typeLookup (.ref C) "__init__") (some (.ref fI))) (hb : ∀ self, W.Looks (model prog w) h (bindSpecial (.ref fI) self) (.ref fI, [self]))
    (z : codeAny (model prog w) (A.under (.builtin "type.__call__" ⟨[.ref C], kw⟩)) (.call (.ref fI) ⟨[.ref (h.objs.size + 1)], kw⟩) (W.InitBack (h.objs.size + 1) R)
      ⟨(h.push (W.kdv_tup [])).push (excO C h.objs.size), g, d, t, os⟩) :
    codeAny (model prog w) A (.call (.ref C) ⟨[], kw⟩) R ⟨h, g, d, t, os⟩ := by
  have f1 := tc_lookup
  have f2 := tc_bind (.ref C)
  have hTy : (⟨h, g, d, t, os⟩ : Shared).TypeIs (.ref C) "type" := ⟨_, hC, rfl⟩
  refine codeAny_of_tree ?_
  show wpAny _ _ (callAny (.ref C) _) _ _ _
  repeat (any_goals (first | assumption | with_reducible refine wpAny_loadPart_at hC ?_ | wp_step))
  refine ⟨rfl, ?_⟩
  refine codeAny_call_builtin_at (Code.quiet_builtin _ (by decide +kernel)) entry_typeCall (wpAny_check_type_call_sub hC (fm_type_call FX hT hC hi hb ?_))
  refine codeAny_mono z fun r s' y => ?_
  rcases r with e | (v | _ | _ | _) <;> exact y
end
end HandSPX
end PySem

namespace Fm
open PySem PySem.Spec PyProof.Rows L2
/-- how __init__(self, f) binds where f comes by its name -/
theorem fun_kbn {K : PySem.W.Frag} {qual f : Str} {st : Stmt} {fI : Addr} {fd : FuncData} (F : Fun K "__init__" qual st fI fd)
    (h : ∀ (kV doc pm : Value) (an : Option Addr) (cdv ct u v : Value), bindArgs (PySem.W.fnOf "__init__" qual (defArgs st) (defBody st) (defScope st) .none kV doc pm an cdv ct) ⟨[u], [(f, v)]⟩ = pure ([(("self" : Str), u), (f, v)] : List (Str × Value))) :
    KBn K fd ["self", f] 1 [f] (fun us ws => us ++ ws) (fun vs zs => vs ++ zs) := by
  obtain ⟨oc, od, kV, doc, pm, an, cdv, ct, osl, rfl, lk, hcd⟩ := F.ex
  refine ⟨fun s us ws _ l1 l2 => ?_, fun r1 r2 => r1.append r2⟩
  match us, ws, l1, l2 with
  | [u], [v], _, _ => exact BindsTo.of_eq (h kV doc pm an cdv ct u v)
section
variable {X : Cx}
/-- C(f = e) -/
def tMkK (C : Addr) (f : Str) (tk : TA) : L2.St → Hp → XK → Prop := fun σ H Q => tk σ H fun zs H1 => zs.length = 1 ∧ ∀ a, H1 a = none → spErr C f (.ref a :: zs) (upd H1 a (exo a C none))
  (fun v H2 => v = .non ∧ ∃ (d : Addr) (fs : List (Str × V)), H2 a = some (exo a C (some d)) ∧ H2 d = some (exd d fs) ∧ H1 d = none ∧ Q (.ref C) (some d) (upd (del H2 a) d (.xd fs))) (fun _ _ _ => False)
theorem pmk_errK {x f : Str} {C fI : Addr} {fd : FuncData} {kws : List Keyword} {tk : TA} {p pos : Pos} {k : Nat} (T : OexC X.K C) (gl : X.mg x = some (.ref C)) (iC : PySem.W.findIn X.K (.ref C) "__init__" = some (some (.ref fI))) (tI : PySem.W.typeIn X.K (.ref fI) = some (.type "function"))
    (F1 : FnOk X.prog X.w X.K X.mg X.base CX0 1 fI fd ["self", f] (spErr C f)) (kb : KBn X.K fd ["self", f] 1 [f] (fun us ws => us ++ ws) (fun vs zs => vs ++ zs)) (hr : Room k X.A) (hk : 2 ≤ k) (hkw : PK X kws tk) (hg : Gl X x := by rfl)
    (hall : (backToKw pos (keywordEach kws X.env)).all (·.1.isSome) = true := by rfl) (hks : (backToKw pos (keywordEach kws X.env)).filterMap (·.1) = [f] := by rfl) (hdb : (x == ("__debug__" : Str)) = false := by decide)
    (hpl : ((backTo pos (starEach [] X.env)).any (·.1) || (backToKw pos (keywordEach kws X.env)).any (·.1.isNone)) = false := by rfl) :
    PMk X (.Call (.Name x p) [] kws pos) (tMkK C f tk) := by
  have hr : Room (1 + 1) X.A := hr.mono hk
  intro pins s σ H Q I h
  obtain ⟨nm, q, N, bs, bm, sn, sub, ab, col, dd, k0, k1, k2, k3, k5, hC, hbm⟩ := T.cls
  refine wpAny_Call_Name_kw (ld_glob I hg gl ?_ hdb)
  refine PySem.W.callWith_KW0 (h₀ := X.base) I.ok.mod.kin T.kC hall ?_ hpl
  refine thn (hkw.run pos pins s σ H _ I h) fun ws s1 ⟨zs, H1, I1, r1, l1, q1⟩ => ⟨I1.kIn, ?_⟩
  rw [hks]
  show wpAny _ _ (call (.ref C) [] ([f].zip ws)) _ _ _
  obtain ⟨hp, g, dr, tk', os⟩ := s1
  have sz : hp.objs.size ≤ hp.objs.size + 1 := Nat.le_succ _
  have fr : H1 (hp.objs.size + 1) = none := I1.hok.fresh sz
  have hq := q1 (hp.objs.size + 1) fr
  have kk : ∀ b o, hp.get? b = some o → ((hp.push (PySem.W.kdv_tup [])).push (PySem.HandSPX.excO C hp.objs.size)).get? b = some o := fun b o e => Heap.get?_push_of_some _ (Heap.get?_push_of_some _ e)
  have gt : ((hp.push (PySem.W.kdv_tup [])).push (PySem.HandSPX.excO C hp.objs.size)).get? (hp.objs.size + 1) = some (PySem.HandSPX.excO C hp.objs.size) := by heap_get
  have I2 : Inv X pins σ (upd H1 (hp.objs.size + 1) (exo (hp.objs.size + 1) C none)) ⟨(hp.push (PySem.W.kdv_tup [])).push (PySem.HandSPX.excO C hp.objs.size), g, dr, tk', os⟩ :=
    I1.laid (t' := tk') (a := hp.objs.size + 1) (o := exo (hp.objs.size + 1) C none) kk sz (exo_ok gt)
  have lw : ws.length = ([f] : List Str).length := r1.length.symm.trans l1
  have r2 : Vals (V.ref (hp.objs.size + 1) :: zs) (Value.ref (hp.objs.size + 1) :: ws) := .cons rfl r1
  refine wpAny_call (PySem.HandSPX.fm_call_kw F.excBase_ValueError (fun Y => PySem.HandSPX.refsVE_contains Y bm hbm) (I1.kIn _ _ hC) (PySem.W.looks_findIn I1.kIn iC) (fun self => PySem.W.bind_fn I1.kIn self tI)
    (codeAny_mono (F1.run _ X.stack _ _ ⟨[Value.ref (hp.objs.size + 1)], [f].zip ws⟩ (Value.ref (hp.objs.size + 1) :: ws) _ _ (fun _ _ _ => False) (hr.make C [] ([f].zip ws)) (I2.env0.make C [] ([f].zip ws)) (kb.to _ [Value.ref (hp.objs.size + 1)] ws I2.kIn rfl lw) r2 hq) fun r s' hq' => ?_))
  cases r with
  | error er => exact hq'.elim
  | ok fl =>
    cases fl with
    | ret u =>
      obtain ⟨v, H2, os2, bare2, un2, hok2, rv, ev, d, fs, ea, ed, hd1, q2⟩ := hq'
      subst ev
      obtain ⟨h2, g2, d2, t2, os'⟩ := s'
      exact ⟨rv, mk_end (raises_own T.exC T.tyC) I1 sz kk un2 hok2 os2 bare2 ea ed hd1 q2⟩
    | next => exact False.elim hq'
    | brk => exact False.elim hq'
    | cont => exact False.elim hq'
/-- isinstance(e, c), e the error that the suite holds, with a dict of its own or none -/
def rIsX (K : PySem.W.Frag) (a : Addr) (cls : Value) (d : Option Addr) : List V → Hp → VK → Prop := fun xs H Q => ∃ (c : V) (cv : Value) (b : Bool) (D : Addr), xs = [.ref a, c] ∧ cls = .ref D ∧ ExcC K D ∧ (∀ u, RelV c u → u = cv) ∧ (d = none ∨ ∃ dd fs, d = some dd ∧ H dd = some (.xd fs)) ∧ PySem.W.kitOne K (.ref D) cv = some b ∧ Q (.bl b) H
theorem call_isX {a : Addr} {cls : Value} {d : Option Addr} {oe : Obj} {pn : List (Addr × Obj)} (hz : Zc cls d oe) (hf : ∃ vs, oe.data = .fields vs) : CallR (X.suite a ((a, oe) :: pn)) (.builtin "isinstance") (rIsX X.K a cls d) := by
  intro pins s σ H xs us Q I r h
  obtain ⟨c, cv, b, D, rfl, rfl, C, hcv, hd, e, q⟩ := h
  cases r with
  | cons rx rr =>
    cases rr with
    | @cons _ uc _ _ rt rr =>
      cases rr
      cases rx
      obtain rfl := hcv _ rt
      obtain ⟨hget, _⟩ := I.pin (a, oe) (List.mem_append_left _ List.mem_cons_self)
      obtain ⟨vs, hv⟩ := hf
      have fin : ∀ od, PySem.W.InstAt s.heap a oe D od → wpAny (model X.prog X.w) (X.suite a ((a, oe) :: pn)).A (call (.builtin "isinstance") [.ref a, uc]) (EP (X.suite a ((a, oe) :: pn)) pins σ Q) (X.suite a ((a, oe) :: pn)).xe s := fun od J =>
        PySem.W.kia_one (PySem.W.kitx_exc (od := od) (ox := oe) (x := a) (by obtain ⟨cd, hc, _⟩ := PySem.W.any_some C.hd; rw [hc]; rfl) C.hg C.hk C.hs C.ha C.hn C.ht C.hm) I.kIn J e (fun z => nomatch z) fun tk => ⟨.bl b, H, I.kept (t' := tk) fun _ _ z => z, rfl, q⟩
      rcases hd with rfl | ⟨dd, fs, rfl, hdd⟩
      · refine fin none ⟨hget, hz.1, by unfold PySem.W.notCls; rw [hv] <;> rfl, by rw [hz.2]; trivial⟩
      · have hx : ObjOk X.prog X.w H s.heap dd (.xd fs) := I.hok dd _ hdd
        obtain ⟨mA, hns, hr⟩ := hx
        obtain ⟨od, ho, hl⟩ := lookIn_ns hns
        exact fin (some od) ⟨hget, hz.1, by unfold PySem.W.notCls; rw [hv] <;> rfl, by rw [hz.2]; exact ho⟩
/-- C(), C an own error without an __init__ of its own -/
theorem pmk_own0 {C : Addr} {bmB : List Value} {B newId initId : String} {x : Str} {p pos : Pos} (FX : ExcBaseFacts B newId initId bmB) (q : PySem.W.excIn X.K C bmB newId = true) (gC : X.mg x = some (.ref C))
    (kC : PySem.W.keepIn X.K (.ref C) = true) (r : Raises X (.ref C)) (hg : Gl X x := by rfl) (hdb : (x == ("__debug__" : Str)) = false := by decide) :
    PMk X (.Call (.Name x p) [] [] pos) (fun _ H Q => Q (.ref C) none H) := by
  intro pins s σ H Q I h
  refine wpAny_Call_Name_kw (ld_glob I hg gC ?_ hdb)
  refine PySem.W.callWith_K0 I.kIn kC ?_
  show wpAny _ _ (call (.ref C) []) _ _ _
  obtain ⟨bm, N, nm, qn, bs, hdct, sn, sub, ab, col, dd, k0, k1, k2, k3, k5, mN, hC, hN, hni, T⟩ := exc_obj I.kIn q
  refine wpAny_call_exc_subT FX T hC hN hni (fun h' e hm => ?_) (Nat.zero_le _)
  exact mk_of I hm r h (I.hok.gone hm.new)
end
end Fm

namespace Fm
open PySem PySem.Spec PyProof.Rows L2
/-- an error with one attribute, made by place or by name -/
structure ErrK (P : Program) (w : World) (K : PySem.W.Frag) (mg : Str → Option Value) (base : Heap) (x : Str) (f : Str) (C : Addr) : Prop where
  er : Err P w K mg base x f C
  kw : ∃ fI fd, PySem.W.findIn K (.ref C) "__init__" = some (some (.ref fI)) ∧ PySem.W.typeIn K (.ref fI) = some (.type "function") ∧ FnOk P w K mg base CX0 1 fI fd ["self", f] (spErr C f) ∧ KBn K fd ["self", f] 1 [f] (fun us ws => us ++ ws) (fun vs zs => vs ++ zs)
theorem ps_raiseK {X : Cx} {x f : Str} {C : Addr} {kws : List Keyword} {tk : TA} {W : WX} {p pos pos2 : Pos} {k : Nat} (hc : X.calm = true) (T : ErrK X.prog X.w X.K X.mg X.base x f C) (hr : Room k X.A) (hk : 2 ≤ k) (tks : Takes X W) (hkw : PK X kws tk) (hg : Gl X x := by rfl)
    (hall : (backToKw pos (keywordEach kws X.env)).all (·.1.isSome) = true := by rfl) (hks : (backToKw pos (keywordEach kws X.env)).filterMap (·.1) = [f] := by rfl) (hdb : (x == ("__debug__" : Str)) = false := by decide)
    (hpl : ((backTo pos (starEach [] X.env)).any (·.1) || (backToKw pos (keywordEach kws X.env)).any (·.1.isNone)) = false := by rfl) :
    PS X (.Raise (some (.Call (.Name x p) [] kws pos)) none pos2) (fun _ σ H => tMkK C f tk σ H fun cls d H' => W cls d σ H') := by
  obtain ⟨fI, fd, h1, h2, F, b⟩ := T.kw
  exact ps_raise hc tks (pmk_errK T.er.oex T.er.gl h1 h2 F b hr hk hkw hg hall hks hdb hpl)
/-- an error without an __init__ -/
structure Err0 (K : PySem.W.Frag) (mg : Str → Option Value) (x : Str) (C : Addr) : Prop where
  ex : PySem.W.excIn K C [.type "ValueError", .type "Exception", .type "BaseException", .type "object"] "ValueError.__new__" = true
  gl : mg x = some (.ref C)
  kp : PySem.W.keepIn K (.ref C) = true
  bs : PySem.W.subIn K (.ref C) (.type "BaseException") = some true
  ty : PySem.W.typeIn K (.ref C) = some (.type "type")
theorem ps_raise0 {X : Cx} {x : Str} {C : Addr} {W : WX} {p pos pos2 : Pos} (hc : X.calm = true) (T : Err0 X.K X.mg x C) (tks : Takes X W) (hg : Gl X x := by rfl) (hdb : (x == ("__debug__" : Str)) = false := by decide) :
    PS X (.Raise (some (.Call (.Name x p) [] [] pos)) none pos2) (fun _ σ H => W (.ref C) none σ H) :=
  ps_raise hc tks (pmk_own0 F.excBase_ValueError T.ex T.gl T.kp (raises_own T.bs T.ty) hg hdb)
def fld (i : Nat) : Str := if i = 0 ∨ i = 5 ∨ i = 7 ∨ i = 10 ∨ i = 14 ∨ i = 15 then "at" else "value"
structure Ers (P : Program) (w : World) (K : PySem.W.Frag) (mg : Str → Option Value) (base : Heap) (C : Nat → Addr) : Prop where
  e0 : ErrK P w K mg base "BadShape" "at" (C 0)
  e1 : ErrK P w K mg base "BadName" "value" (C 1)
  e2 : ErrK P w K mg base "BadStore" "value" (C 2)
  e3 : ErrK P w K mg base "BadRows" "value" (C 3)
  e4 : ErrK P w K mg base "BadIndex" "value" (C 4)
  e5 : ErrK P w K mg base "BadBlock" "at" (C 5)
  e6 : ErrK P w K mg base "BadProgram" "value" (C 6)
  e7 : ErrK P w K mg base "BadPattern" "at" (C 7)
  e8 : ErrK P w K mg base "BadPair" "value" (C 8)
  e9 : ErrK P w K mg base "BadMove" "value" (C 9)
  e10 : ErrK P w K mg base "BadAsk" "at" (C 10)
  e11 : ErrK P w K mg base "BadAsks" "value" (C 11)
  e12 : ErrK P w K mg base "BadPlan" "value" (C 12)
  e13 : ErrK P w K mg base "BadCount" "value" (C 13)
  e14 : ErrK P w K mg base "BadText" "at" (C 14)
  e15 : ErrK P w K mg base "NotPlain" "at" (C 15)
  e16 : ErrK P w K mg base "Unlike" "value" (C 16)
  z17 : Err0 K mg "NothingDone" (C 17)
  z18 : Err0 K mg "TooMany" (C 18)
  z19 : Err0 K mg "TooLong" (C 19)
  z20 : Err0 K mg "MetError" (C 20)
def spRaise (C : Nat → Addr) : Sp := fun vs H _ E => ∃ (i : Nat) (v : V), vs = [.int i, v] ∧ i ≤ 20 ∧ (i < 17 → ∀ d, H d = none → E (.ref (C i)) (some d) (upd H d (.xd [(fld i, v)]))) ∧ (17 ≤ i → E (.ref (C i)) none H)
def spRaiseN (C : Nat → Addr) : Sp := fun vs H _ E => ∃ (i : Nat) (v : V), vs = [.int i, v] ∧ i < 17 ∧ ∀ d, H d = none → E (.ref (C i)) (some d) (upd H d (.xd [(fld i, v)]))
theorem int_ne {i k : Nat} (h : ¬ decide (V.int (i : Int) = V.int (k : Int)) = true) : i ≠ k := fun e => h (decide_eq_true (by rw [e]))
theorem int_eq {i k : Nat} (h : decide (V.int (i : Int) = V.int (k : Int)) = true) : i = k := by
  have := of_decide_eq_true h
  injection this with this
  omega
section
variable {P : Program} {w : World} {K : PySem.W.Frag} {mg : Str → Option Value} {base : Heap}
theorem ok_raise {C : Nat → Addr} (T : Ers P w K mg base C) (D : Dfn K mg "_law_raise" s__law_raise ["_law_which", "_law_thing"]) : Has P w K mg base (L2.CX P w) "_law_raise" ["_law_which", "_law_thing"] 3 (spRaise C) := by
  refine D.hasX sc__law_raise (fun vs H Q E h => ?_) (fun f cdv A outer s H vs Q E hr h => ?_)
  · obtain ⟨i, v, rfl, _⟩ := h; rfl
  · obtain ⟨i, v, rfl, hi, kE, kZ⟩ := h
    refine ⟨_, (pss_cons (ps_if (pt_cmpR op_eq (pv 0) pe_int (nomark _))
  (pss_one (ps_raiseE rfl T.e0.er hr (by decide) (takes_of rfl rfl rfl rfl) (pa_cons (pv 1) pa_nil)))
  pss_nil)
  (pss_cons (ps_if (pt_cmpR op_eq (pv 0) pe_int (nomark _))
  (pss_one (ps_raiseE rfl T.e1.er hr (by decide) (takes_of rfl rfl rfl rfl) (pa_cons (pv 1) pa_nil)))
  pss_nil)
  (pss_cons (ps_if (pt_cmpR op_eq (pv 0) pe_int (nomark _))
  (pss_one (ps_raiseE rfl T.e2.er hr (by decide) (takes_of rfl rfl rfl rfl) (pa_cons (pv 1) pa_nil)))
  pss_nil)
  (pss_cons (ps_if (pt_cmpR op_eq (pv 0) pe_int (nomark _))
  (pss_one (ps_raiseE rfl T.e3.er hr (by decide) (takes_of rfl rfl rfl rfl) (pa_cons (pv 1) pa_nil)))
  pss_nil)
  (pss_cons (ps_if (pt_cmpR op_eq (pv 0) pe_int (nomark _))
  (pss_one (ps_raiseE rfl T.e4.er hr (by decide) (takes_of rfl rfl rfl rfl) (pa_cons (pv 1) pa_nil)))
  pss_nil)
  (pss_cons (ps_if (pt_cmpR op_eq (pv 0) pe_int (nomark _))
  (pss_one (ps_raiseE rfl T.e5.er hr (by decide) (takes_of rfl rfl rfl rfl) (pa_cons (pv 1) pa_nil)))
  pss_nil)
  (pss_cons (ps_if (pt_cmpR op_eq (pv 0) pe_int (nomark _))
  (pss_one (ps_raiseE rfl T.e6.er hr (by decide) (takes_of rfl rfl rfl rfl) (pa_cons (pv 1) pa_nil)))
  pss_nil)
  (pss_cons (ps_if (pt_cmpR op_eq (pv 0) pe_int (nomark _))
  (pss_one (ps_raiseE rfl T.e7.er hr (by decide) (takes_of rfl rfl rfl rfl) (pa_cons (pv 1) pa_nil)))
  pss_nil)
  (pss_cons (ps_if (pt_cmpR op_eq (pv 0) pe_int (nomark _))
  (pss_one (ps_raiseE rfl T.e8.er hr (by decide) (takes_of rfl rfl rfl rfl) (pa_cons (pv 1) pa_nil)))
  pss_nil)
  (pss_cons (ps_if (pt_cmpR op_eq (pv 0) pe_int (nomark _))
  (pss_one (ps_raiseE rfl T.e9.er hr (by decide) (takes_of rfl rfl rfl rfl) (pa_cons (pv 1) pa_nil)))
  pss_nil)
  (pss_cons (ps_if (pt_cmpR op_eq (pv 0) pe_int (nomark _))
  (pss_one (ps_raiseE rfl T.e10.er hr (by decide) (takes_of rfl rfl rfl rfl) (pa_cons (pv 1) pa_nil)))
  pss_nil)
  (pss_cons (ps_if (pt_cmpR op_eq (pv 0) pe_int (nomark _))
  (pss_one (ps_raiseE rfl T.e11.er hr (by decide) (takes_of rfl rfl rfl rfl) (pa_cons (pv 1) pa_nil)))
  pss_nil)
  (pss_cons (ps_if (pt_cmpR op_eq (pv 0) pe_int (nomark _))
  (pss_one (ps_raiseE rfl T.e12.er hr (by decide) (takes_of rfl rfl rfl rfl) (pa_cons (pv 1) pa_nil)))
  pss_nil)
  (pss_cons (ps_if (pt_cmpR op_eq (pv 0) pe_int (nomark _))
  (pss_one (ps_raiseE rfl T.e13.er hr (by decide) (takes_of rfl rfl rfl rfl) (pa_cons (pv 1) pa_nil)))
  pss_nil)
  (pss_cons (ps_if (pt_cmpR op_eq (pv 0) pe_int (nomark _))
  (pss_one (ps_raiseE rfl T.e14.er hr (by decide) (takes_of rfl rfl rfl rfl) (pa_cons (pv 1) pa_nil)))
  pss_nil)
  (pss_cons (ps_if (pt_cmpR op_eq (pv 0) pe_int (nomark _))
  (pss_one (ps_raiseE rfl T.e15.er hr (by decide) (takes_of rfl rfl rfl rfl) (pa_cons (pv 1) pa_nil)))
  pss_nil)
  (pss_cons (ps_if (pt_cmpR op_eq (pv 0) pe_int (nomark _))
  (pss_one (ps_raiseE rfl T.e16.er hr (by decide) (takes_of rfl rfl rfl rfl) (pa_cons (pv 1) pa_nil)))
  pss_nil)
  (pss_cons (ps_if (pt_cmpR op_eq (pv 0) pe_int (nomark _))
  (pss_one (ps_raise0 rfl T.z17 (takes_of rfl rfl rfl rfl)))
  pss_nil)
  (pss_cons (ps_if (pt_cmpR op_eq (pv 0) pe_int (nomark _))
  (pss_one (ps_raise0 rfl T.z18 (takes_of rfl rfl rfl rfl)))
  pss_nil)
  (pss_cons (ps_if (pt_cmpR op_eq (pv 0) pe_int (nomark _))
  (pss_one (ps_raise0 rfl T.z19 (takes_of rfl rfl rfl rfl)))
  pss_nil)
  (pss_one (ps_raise0 rfl T.z20 (takes_of rfl rfl rfl rfl))))))))))))))))))))))), ?_⟩
    refine ⟨_, rfl, rfl, _, rfl, ?_⟩
    refine ite2 (fun h => ?_) (fun n0 => ?_)
    · obtain rfl := int_eq (k := 0) h
      exact ⟨_, rfl, by simp, fun b hb => err_in hb fun d hd => kE (by decide) d hd⟩
    have n0 := int_ne (k := 0) n0
    refine ⟨_, rfl, rfl, _, rfl, ?_⟩
    refine ite2 (fun h => ?_) (fun n1 => ?_)
    · obtain rfl := int_eq (k := 1) h
      exact ⟨_, rfl, by simp, fun b hb => err_in hb fun d hd => kE (by decide) d hd⟩
    have n1 := int_ne (k := 1) n1
    refine ⟨_, rfl, rfl, _, rfl, ?_⟩
    refine ite2 (fun h => ?_) (fun n2 => ?_)
    · obtain rfl := int_eq (k := 2) h
      exact ⟨_, rfl, by simp, fun b hb => err_in hb fun d hd => kE (by decide) d hd⟩
    have n2 := int_ne (k := 2) n2
    refine ⟨_, rfl, rfl, _, rfl, ?_⟩
    refine ite2 (fun h => ?_) (fun n3 => ?_)
    · obtain rfl := int_eq (k := 3) h
      exact ⟨_, rfl, by simp, fun b hb => err_in hb fun d hd => kE (by decide) d hd⟩
    have n3 := int_ne (k := 3) n3
    refine ⟨_, rfl, rfl, _, rfl, ?_⟩
    refine ite2 (fun h => ?_) (fun n4 => ?_)
    · obtain rfl := int_eq (k := 4) h
      exact ⟨_, rfl, by simp, fun b hb => err_in hb fun d hd => kE (by decide) d hd⟩
    have n4 := int_ne (k := 4) n4
    refine ⟨_, rfl, rfl, _, rfl, ?_⟩
    refine ite2 (fun h => ?_) (fun n5 => ?_)
    · obtain rfl := int_eq (k := 5) h
      exact ⟨_, rfl, by simp, fun b hb => err_in hb fun d hd => kE (by decide) d hd⟩
    have n5 := int_ne (k := 5) n5
    refine ⟨_, rfl, rfl, _, rfl, ?_⟩
    refine ite2 (fun h => ?_) (fun n6 => ?_)
    · obtain rfl := int_eq (k := 6) h
      exact ⟨_, rfl, by simp, fun b hb => err_in hb fun d hd => kE (by decide) d hd⟩
    have n6 := int_ne (k := 6) n6
    refine ⟨_, rfl, rfl, _, rfl, ?_⟩
    refine ite2 (fun h => ?_) (fun n7 => ?_)
    · obtain rfl := int_eq (k := 7) h
      exact ⟨_, rfl, by simp, fun b hb => err_in hb fun d hd => kE (by decide) d hd⟩
    have n7 := int_ne (k := 7) n7
    refine ⟨_, rfl, rfl, _, rfl, ?_⟩
    refine ite2 (fun h => ?_) (fun n8 => ?_)
    · obtain rfl := int_eq (k := 8) h
      exact ⟨_, rfl, by simp, fun b hb => err_in hb fun d hd => kE (by decide) d hd⟩
    have n8 := int_ne (k := 8) n8
    refine ⟨_, rfl, rfl, _, rfl, ?_⟩
    refine ite2 (fun h => ?_) (fun n9 => ?_)
    · obtain rfl := int_eq (k := 9) h
      exact ⟨_, rfl, by simp, fun b hb => err_in hb fun d hd => kE (by decide) d hd⟩
    have n9 := int_ne (k := 9) n9
    refine ⟨_, rfl, rfl, _, rfl, ?_⟩
    refine ite2 (fun h => ?_) (fun n10 => ?_)
    · obtain rfl := int_eq (k := 10) h
      exact ⟨_, rfl, by simp, fun b hb => err_in hb fun d hd => kE (by decide) d hd⟩
    have n10 := int_ne (k := 10) n10
    refine ⟨_, rfl, rfl, _, rfl, ?_⟩
    refine ite2 (fun h => ?_) (fun n11 => ?_)
    · obtain rfl := int_eq (k := 11) h
      exact ⟨_, rfl, by simp, fun b hb => err_in hb fun d hd => kE (by decide) d hd⟩
    have n11 := int_ne (k := 11) n11
    refine ⟨_, rfl, rfl, _, rfl, ?_⟩
    refine ite2 (fun h => ?_) (fun n12 => ?_)
    · obtain rfl := int_eq (k := 12) h
      exact ⟨_, rfl, by simp, fun b hb => err_in hb fun d hd => kE (by decide) d hd⟩
    have n12 := int_ne (k := 12) n12
    refine ⟨_, rfl, rfl, _, rfl, ?_⟩
    refine ite2 (fun h => ?_) (fun n13 => ?_)
    · obtain rfl := int_eq (k := 13) h
      exact ⟨_, rfl, by simp, fun b hb => err_in hb fun d hd => kE (by decide) d hd⟩
    have n13 := int_ne (k := 13) n13
    refine ⟨_, rfl, rfl, _, rfl, ?_⟩
    refine ite2 (fun h => ?_) (fun n14 => ?_)
    · obtain rfl := int_eq (k := 14) h
      exact ⟨_, rfl, by simp, fun b hb => err_in hb fun d hd => kE (by decide) d hd⟩
    have n14 := int_ne (k := 14) n14
    refine ⟨_, rfl, rfl, _, rfl, ?_⟩
    refine ite2 (fun h => ?_) (fun n15 => ?_)
    · obtain rfl := int_eq (k := 15) h
      exact ⟨_, rfl, by simp, fun b hb => err_in hb fun d hd => kE (by decide) d hd⟩
    have n15 := int_ne (k := 15) n15
    refine ⟨_, rfl, rfl, _, rfl, ?_⟩
    refine ite2 (fun h => ?_) (fun n16 => ?_)
    · obtain rfl := int_eq (k := 16) h
      exact ⟨_, rfl, by simp, fun b hb => err_in hb fun d hd => kE (by decide) d hd⟩
    have n16 := int_ne (k := 16) n16
    refine ⟨_, rfl, rfl, _, rfl, ?_⟩
    refine ite2 (fun h => ?_) (fun n17 => ?_)
    · obtain rfl := int_eq (k := 17) h
      exact kZ (by decide)
    have n17 := int_ne (k := 17) n17
    refine ⟨_, rfl, rfl, _, rfl, ?_⟩
    refine ite2 (fun h => ?_) (fun n18 => ?_)
    · obtain rfl := int_eq (k := 18) h
      exact kZ (by decide)
    have n18 := int_ne (k := 18) n18
    refine ⟨_, rfl, rfl, _, rfl, ?_⟩
    refine ite2 (fun h => ?_) (fun n19 => ?_)
    · obtain rfl := int_eq (k := 19) h
      exact kZ (by decide)
    have n19 := int_ne (k := 19) n19
    obtain rfl : i = 20 := by omega
    exact kZ (by decide)
theorem ok_raise_named {C : Nat → Addr} (T : Ers P w K mg base C) (D : Dfn K mg "_law_raise_named" s__law_raise_named ["_law_which", "_law_thing"]) : Has P w K mg base (L2.CX P w) "_law_raise_named" ["_law_which", "_law_thing"] 3 (spRaiseN C) := by
  refine D.hasX sc__law_raise_named (fun vs H Q E h => ?_) (fun f cdv A outer s H vs Q E hr h => ?_)
  · obtain ⟨i, v, rfl, _⟩ := h; rfl
  · obtain ⟨i, v, rfl, hi, kE⟩ := h
    refine ⟨_, (pss_cons (ps_if (pt_cmpR op_eq (pv 0) pe_int (nomark _))
  (pss_one (ps_raiseK rfl T.e0 hr (by decide) (takes_of rfl rfl rfl rfl) (pk_cons (pv 1) pk_nil)))
  pss_nil)
  (pss_cons (ps_if (pt_cmpR op_eq (pv 0) pe_int (nomark _))
  (pss_one (ps_raiseK rfl T.e1 hr (by decide) (takes_of rfl rfl rfl rfl) (pk_cons (pv 1) pk_nil)))
  pss_nil)
  (pss_cons (ps_if (pt_cmpR op_eq (pv 0) pe_int (nomark _))
  (pss_one (ps_raiseK rfl T.e2 hr (by decide) (takes_of rfl rfl rfl rfl) (pk_cons (pv 1) pk_nil)))
  pss_nil)
  (pss_cons (ps_if (pt_cmpR op_eq (pv 0) pe_int (nomark _))
  (pss_one (ps_raiseK rfl T.e3 hr (by decide) (takes_of rfl rfl rfl rfl) (pk_cons (pv 1) pk_nil)))
  pss_nil)
  (pss_cons (ps_if (pt_cmpR op_eq (pv 0) pe_int (nomark _))
  (pss_one (ps_raiseK rfl T.e4 hr (by decide) (takes_of rfl rfl rfl rfl) (pk_cons (pv 1) pk_nil)))
  pss_nil)
  (pss_cons (ps_if (pt_cmpR op_eq (pv 0) pe_int (nomark _))
  (pss_one (ps_raiseK rfl T.e5 hr (by decide) (takes_of rfl rfl rfl rfl) (pk_cons (pv 1) pk_nil)))
  pss_nil)
  (pss_cons (ps_if (pt_cmpR op_eq (pv 0) pe_int (nomark _))
  (pss_one (ps_raiseK rfl T.e6 hr (by decide) (takes_of rfl rfl rfl rfl) (pk_cons (pv 1) pk_nil)))
  pss_nil)
  (pss_cons (ps_if (pt_cmpR op_eq (pv 0) pe_int (nomark _))
  (pss_one (ps_raiseK rfl T.e7 hr (by decide) (takes_of rfl rfl rfl rfl) (pk_cons (pv 1) pk_nil)))
  pss_nil)
  (pss_cons (ps_if (pt_cmpR op_eq (pv 0) pe_int (nomark _))
  (pss_one (ps_raiseK rfl T.e8 hr (by decide) (takes_of rfl rfl rfl rfl) (pk_cons (pv 1) pk_nil)))
  pss_nil)
  (pss_cons (ps_if (pt_cmpR op_eq (pv 0) pe_int (nomark _))
  (pss_one (ps_raiseK rfl T.e9 hr (by decide) (takes_of rfl rfl rfl rfl) (pk_cons (pv 1) pk_nil)))
  pss_nil)
  (pss_cons (ps_if (pt_cmpR op_eq (pv 0) pe_int (nomark _))
  (pss_one (ps_raiseK rfl T.e10 hr (by decide) (takes_of rfl rfl rfl rfl) (pk_cons (pv 1) pk_nil)))
  pss_nil)
  (pss_cons (ps_if (pt_cmpR op_eq (pv 0) pe_int (nomark _))
  (pss_one (ps_raiseK rfl T.e11 hr (by decide) (takes_of rfl rfl rfl rfl) (pk_cons (pv 1) pk_nil)))
  pss_nil)
  (pss_cons (ps_if (pt_cmpR op_eq (pv 0) pe_int (nomark _))
  (pss_one (ps_raiseK rfl T.e12 hr (by decide) (takes_of rfl rfl rfl rfl) (pk_cons (pv 1) pk_nil)))
  pss_nil)
  (pss_cons (ps_if (pt_cmpR op_eq (pv 0) pe_int (nomark _))
  (pss_one (ps_raiseK rfl T.e13 hr (by decide) (takes_of rfl rfl rfl rfl) (pk_cons (pv 1) pk_nil)))
  pss_nil)
  (pss_cons (ps_if (pt_cmpR op_eq (pv 0) pe_int (nomark _))
  (pss_one (ps_raiseK rfl T.e14 hr (by decide) (takes_of rfl rfl rfl rfl) (pk_cons (pv 1) pk_nil)))
  pss_nil)
  (pss_cons (ps_if (pt_cmpR op_eq (pv 0) pe_int (nomark _))
  (pss_one (ps_raiseK rfl T.e15 hr (by decide) (takes_of rfl rfl rfl rfl) (pk_cons (pv 1) pk_nil)))
  pss_nil)
  (pss_one (ps_raiseK rfl T.e16 hr (by decide) (takes_of rfl rfl rfl rfl) (pk_cons (pv 1) pk_nil))))))))))))))))))), ?_⟩
    refine ⟨_, rfl, rfl, _, rfl, ?_⟩
    refine ite2 (fun h => ?_) (fun n0 => ?_)
    · obtain rfl := int_eq (k := 0) h
      exact ⟨_, rfl, rfl, fun b hb => err_in hb fun d hd => kE d hd⟩
    have n0 := int_ne (k := 0) n0
    refine ⟨_, rfl, rfl, _, rfl, ?_⟩
    refine ite2 (fun h => ?_) (fun n1 => ?_)
    · obtain rfl := int_eq (k := 1) h
      exact ⟨_, rfl, rfl, fun b hb => err_in hb fun d hd => kE d hd⟩
    have n1 := int_ne (k := 1) n1
    refine ⟨_, rfl, rfl, _, rfl, ?_⟩
    refine ite2 (fun h => ?_) (fun n2 => ?_)
    · obtain rfl := int_eq (k := 2) h
      exact ⟨_, rfl, rfl, fun b hb => err_in hb fun d hd => kE d hd⟩
    have n2 := int_ne (k := 2) n2
    refine ⟨_, rfl, rfl, _, rfl, ?_⟩
    refine ite2 (fun h => ?_) (fun n3 => ?_)
    · obtain rfl := int_eq (k := 3) h
      exact ⟨_, rfl, rfl, fun b hb => err_in hb fun d hd => kE d hd⟩
    have n3 := int_ne (k := 3) n3
    refine ⟨_, rfl, rfl, _, rfl, ?_⟩
    refine ite2 (fun h => ?_) (fun n4 => ?_)
    · obtain rfl := int_eq (k := 4) h
      exact ⟨_, rfl, rfl, fun b hb => err_in hb fun d hd => kE d hd⟩
    have n4 := int_ne (k := 4) n4
    refine ⟨_, rfl, rfl, _, rfl, ?_⟩
    refine ite2 (fun h => ?_) (fun n5 => ?_)
    · obtain rfl := int_eq (k := 5) h
      exact ⟨_, rfl, rfl, fun b hb => err_in hb fun d hd => kE d hd⟩
    have n5 := int_ne (k := 5) n5
    refine ⟨_, rfl, rfl, _, rfl, ?_⟩
    refine ite2 (fun h => ?_) (fun n6 => ?_)
    · obtain rfl := int_eq (k := 6) h
      exact ⟨_, rfl, rfl, fun b hb => err_in hb fun d hd => kE d hd⟩
    have n6 := int_ne (k := 6) n6
    refine ⟨_, rfl, rfl, _, rfl, ?_⟩
    refine ite2 (fun h => ?_) (fun n7 => ?_)
    · obtain rfl := int_eq (k := 7) h
      exact ⟨_, rfl, rfl, fun b hb => err_in hb fun d hd => kE d hd⟩
    have n7 := int_ne (k := 7) n7
    refine ⟨_, rfl, rfl, _, rfl, ?_⟩
    refine ite2 (fun h => ?_) (fun n8 => ?_)
    · obtain rfl := int_eq (k := 8) h
      exact ⟨_, rfl, rfl, fun b hb => err_in hb fun d hd => kE d hd⟩
    have n8 := int_ne (k := 8) n8
    refine ⟨_, rfl, rfl, _, rfl, ?_⟩
    refine ite2 (fun h => ?_) (fun n9 => ?_)
    · obtain rfl := int_eq (k := 9) h
      exact ⟨_, rfl, rfl, fun b hb => err_in hb fun d hd => kE d hd⟩
    have n9 := int_ne (k := 9) n9
    refine ⟨_, rfl, rfl, _, rfl, ?_⟩
    refine ite2 (fun h => ?_) (fun n10 => ?_)
    · obtain rfl := int_eq (k := 10) h
      exact ⟨_, rfl, rfl, fun b hb => err_in hb fun d hd => kE d hd⟩
    have n10 := int_ne (k := 10) n10
    refine ⟨_, rfl, rfl, _, rfl, ?_⟩
    refine ite2 (fun h => ?_) (fun n11 => ?_)
    · obtain rfl := int_eq (k := 11) h
      exact ⟨_, rfl, rfl, fun b hb => err_in hb fun d hd => kE d hd⟩
    have n11 := int_ne (k := 11) n11
    refine ⟨_, rfl, rfl, _, rfl, ?_⟩
    refine ite2 (fun h => ?_) (fun n12 => ?_)
    · obtain rfl := int_eq (k := 12) h
      exact ⟨_, rfl, rfl, fun b hb => err_in hb fun d hd => kE d hd⟩
    have n12 := int_ne (k := 12) n12
    refine ⟨_, rfl, rfl, _, rfl, ?_⟩
    refine ite2 (fun h => ?_) (fun n13 => ?_)
    · obtain rfl := int_eq (k := 13) h
      exact ⟨_, rfl, rfl, fun b hb => err_in hb fun d hd => kE d hd⟩
    have n13 := int_ne (k := 13) n13
    refine ⟨_, rfl, rfl, _, rfl, ?_⟩
    refine ite2 (fun h => ?_) (fun n14 => ?_)
    · obtain rfl := int_eq (k := 14) h
      exact ⟨_, rfl, rfl, fun b hb => err_in hb fun d hd => kE d hd⟩
    have n14 := int_ne (k := 14) n14
    refine ⟨_, rfl, rfl, _, rfl, ?_⟩
    refine ite2 (fun h => ?_) (fun n15 => ?_)
    · obtain rfl := int_eq (k := 15) h
      exact ⟨_, rfl, rfl, fun b hb => err_in hb fun d hd => kE d hd⟩
    have n15 := int_ne (k := 15) n15
    obtain rfl : i = 16 := by omega
    exact ⟨_, rfl, rfl, fun b hb => err_in hb fun d hd => kE d hd⟩
end
end Fm

namespace Fm
open PySem PySem.Spec PyProof.Rows L2
structure Zb (mg : Str → Option Value) : Prop where
  KeyError : mg "KeyError" = none
  IndexError : mg "IndexError" = none
  TypeError : mg "TypeError" = none
  ArithmeticError : mg "ArithmeticError" = none
  RuntimeError : mg "RuntimeError" = none
  ValueError : mg "ValueError" = none
/-- e.f in the suite, whatever the class of e: the class is asked in the reading -/
def tXfN (K : PySem.W.Frag) (a : Addr) (cls : Value) (d : Option Addr) (f : Str) (te : TE) : TE := fun σ H Q => te σ H fun x H1 => x = .ref a ∧ ∃ (C dd : Addr) (fs : List (Str × V)) (v : V), cls = .ref C ∧ XfC K C ∧ PySem.W.findIn K (.ref C) f = some none ∧ d = some dd ∧ H1 dd = some (.xd fs) ∧ fs.lookup f = some v ∧ Q v H1
theorem pe_xfN {X : Cx} {a : Addr} {oe : Obj} {cls : Value} {d : Option Addr} {pn : List (Addr × Obj)} {e : Expr} {te : TE} {pos : Pos} {n : Str} (_ : True) (hz : Zc cls d oe) (hf : ∃ vs, oe.data = .fields vs) (he : PE (X.suite a ((a, oe) :: pn)) e te) (hb : attributeBase e n X.env (eval e X.env) = eval e X.env := by rfl) :
    PE (X.suite a ((a, oe) :: pn)) (.Attribute e n pos) (tXfN X.K a cls d n te) := by
  refine ⟨fun pins s σ H Q I h => ?_⟩
  refine attr_of hb (thn (he.run pins s σ H _ I h) fun u s1 hh => ?_)
  obtain ⟨x, H1, I1, rx, ex, C, dd, fs, v, ec, T, hno, ed, ea, l, q⟩ := hh
  subst ex
  obtain rfl : u = Value.ref a := rx
  subst ec
  subst ed
  obtain ⟨ha, _⟩ := I1.pin (a, oe) (List.mem_append_left _ List.mem_cons_self)
  obtain ⟨vs, hd⟩ := hf
  obtain ⟨mA, hns, hr⟩ := (show ObjOk X.prog X.w H1 s1.heap dd (.xd fs) from I1.hok dd _ ea)
  obtain ⟨od, ho, hl⟩ := lookIn_ns hns
  obtain ⟨u, hu, ru⟩ := RelO.some_of (v := v) (o := mA n) (by rw [← l]; exact hr n)
  have J : PySem.W.InstAt s1.heap a oe C (some od) := ⟨ha, hz.1, by unfold PySem.W.notCls; rw [hd] <;> rfl, by rw [hz.2]; exact ho⟩
  exact HandSPX.exc_get I1.kIn J T.ga T.gg T.exC (PySem.W.findObj_own T.hdC hno rfl (by rw [hl, hu])) (handed_of ru) ⟨v, H1, I1.tok _, ru, q⟩
/-- a built-in method called in the suite: the reading names the outer program alone -/
theorem pe_bmS {X : Cx} {a : Addr} {pn : List (Addr × Obj)} {T id : String} {name : Str} {r : V → List V → Hp → VK → Prop} {o e : Expr} {es : List Expr} {to : TE} {t : TA} {apos cpos : Pos} (pa : PlainAttrs T) (slot : Slot T name id) (hty : typeOf (.builtin id) = pure (.type "method_descriptor")) (hm : MtR (X.suite a pn) id r) (ho : PE (X.suite a pn) o to) (ha : PA (X.suite a pn) (e :: es) t)
    (hbase : attributeBase o name X.env (eval o X.env) = eval o X.env := by rfl)
    (hfew : ((backTo cpos (starEach (e :: es) X.env)).all (fun x => !x.1) && (backToKw cpos (keywordEach [] X.env)).all (fun x => x.1.isSome)
      && decide ((e :: es).length + ([] : List Keyword).length + (if ([] : List Keyword).isEmpty then 0 else 1) < 30)) = true := by rfl)
    (hline : (apos.endLine == cpos.line) = true := by rfl) (hs : starEach (e :: es) X.env = (false, eval e X.env) :: starEach es X.env := by rfl) (hplain : (backTo cpos (starEach es X.env)).any (·.1) = false := by rfl) :
    PE (X.suite a pn) (.Call (.Attribute o name apos) (e :: es) [] cpos) (tBM X.K T r to t) :=
  pe_bm pa slot hty hm ho ha hbase hfew hline hs hplain
/-- what isinstance and except ask of the classes -/
structure Kits (K : PySem.W.Frag) (C : Nat → Addr) : Prop where
  ex : ∀ i, i ≤ 20 → ExcC K (C i)
  own : ∀ i j, i ≤ 20 → j < 20 → PySem.W.kitOne K (.ref (C i)) (.ref (C j)) = some (decide (i = j))
  no : ∀ i, i ≤ 20 → ∀ t ∈ ["KeyError", "IndexError", "TypeError", "ArithmeticError", "RuntimeError"], PySem.W.kitOne K (.ref (C i)) (.type t) = some false
  ve : ∀ i, i ≤ 20 → PySem.W.kitOne K (.ref (C i)) (.type "ValueError") = some true
  met : ∀ i, i ≤ 20 → PySem.W.exmOne K (.ref (C i)) (.ref (C 20)) = some true
  xf : ∀ i, i < 17 → XfC K (C i) ∧ PySem.W.findIn K (.ref (C i)) (fld i) = some none
def flags (i : Nat) : List V := (List.range 20).map fun j => V.bl (decide (i = j))
def spCaught : Sp := fun vs H Q _ => ∃ (i : Nat) (v : V) (nm : Bool), vs = [.int i, v, .bl nm] ∧ i ≤ 20 ∧ (nm = true → i < 17) ∧
  ∀ (r p o : Addr) (H' : Hp), Kp [] H H' → H' r = some (.tup [.ref p, .ref o, if i < 17 then v else .non]) → H' p = some (.lst (flags i)) → H' o = some (.lst (List.replicate 6 (V.bl false))) → Q (.ref r) H'
theorem sz20 {n : Nat} (h : n ≤ 20) : n ≤ sizeLine := Nat.le_trans h (by decide)
theorem sz20' {n : Nat} (h : n ≤ 20) : n < sizeLine := Nat.lt_of_le_of_lt h (by decide)
structure Sx (H H' : Hp) (i : Nat) (v : V) (d : Option Addr) (l : Addr) (xs : List V) (m : Addr) (ys : List V) : Prop where
  kp : Kp [] H H'
  nl : H l = none
  nm : H m = none
  hl : H' l = some (.lst xs)
  hm : H' m = some (.lst ys)
  lm : l ≠ m
  dk : (i < 17 ∧ ∃ dd, d = some dd ∧ H' dd = some (.xd [(fld i, v)])) ∨ (17 ≤ i ∧ d = none)
theorem Sx.dd {H H' : Hp} {i : Nat} {v : V} {d : Option Addr} {l m : Addr} {xs ys : List V} (S : Sx H H' i v d l xs m ys) : d = none ∨ ∃ dd fs, d = some dd ∧ H' dd = some (.xd fs) := by
  rcases S.dk with ⟨_, dd, e, h⟩ | ⟨_, e⟩
  · exact .inr ⟨dd, _, e, h⟩
  · exact .inl e
theorem Sx.new {H H' : Hp} {i : Nat} {v : V} {d : Option Addr} {l m q : Addr} {xs ys : List V} (S : Sx H H' i v d l xs m ys) (hq : H' q = none) (o : HO) : Sx H (upd H' q o) i v d l xs m ys := by
  refine ⟨S.kp.snoc hq, S.nl, S.nm, ?_, ?_, S.lm, ?_⟩
  · rw [upd_ne (ne_of_none S.hl hq)]; exact S.hl
  · rw [upd_ne (ne_of_none S.hm hq)]; exact S.hm
  · rcases S.dk with ⟨h, dd, e, hd⟩ | h
    · exact .inl ⟨h, dd, e, by rw [upd_ne (ne_of_none hd hq)]; exact hd⟩
    · exact .inr h
theorem Sx.fresh {H H' : Hp} {i : Nat} {v : V} {d : Option Addr} {l m q : Addr} {xs ys : List V} (S : Sx H H' i v d l xs m ys) (hq : H' q = none) (zs : List V) : Sx H (upd H' q (.lst zs)) i v d q zs l xs := by
  have S1 := S.new hq (.lst zs)
  exact ⟨S1.kp, S.kp.free hq (fun _ h => nomatch h), S.nl, upd_same, S1.hl, fun e => ne_of_none S.hl hq e.symm, S1.dk⟩
theorem Sx.put {H H' : Hp} {i : Nat} {v : V} {d : Option Addr} {l m : Addr} {xs ys : List V} (S : Sx H H' i v d l xs m ys) (zs : List V) : Sx H (upd H' l (.lst zs)) i v d l zs m ys := by
  refine ⟨S.kp.late S.nl, S.nl, S.nm, upd_same, ?_, S.lm, ?_⟩
  · rw [upd_ne (fun e => S.lm e.symm)]; exact S.hm
  · rcases S.dk with ⟨h, dd, e, hd⟩ | h
    · exact .inl ⟨h, dd, e, by rw [upd_ne (ne_of hd S.hl (by intro z; cases z))]; exact hd⟩
    · exact .inr h
theorem Sx.first0 {H : Hp} {i : Nat} (v : V) {p o : Addr} (h : 17 ≤ i) (hp : H p = none) (ho : upd H p (.lst []) o = none) : Sx H (upd (upd H p (.lst [])) o (.lst [])) i v none o [] p [] := by
  have ne : p ≠ o := ne_of_none (upd_same (H := H) (o := .lst [])) ho
  refine ⟨(Kp.new hp).snoc ho, (Kp.new (ms := []) hp).free ho (fun _ h => nomatch h), hp, upd_same, by rw [upd_ne ne]; exact upd_same, fun e => ne e.symm, .inr ⟨by omega, rfl⟩⟩
theorem Sx.first1 {H : Hp} {i : Nat} (v : V) {p o d : Addr} (h : i < 17) (hp : H p = none) (ho : upd H p (.lst []) o = none) (hd : upd (upd H p (.lst [])) o (.lst []) d = none) : Sx H (upd (upd (upd H p (.lst [])) o (.lst [])) d (.xd [(fld i, v)])) i v (some d) o [] p [] := by
  have ne : p ≠ o := ne_of_none (upd_same (H := H) (o := .lst [])) ho
  have h1 : upd (upd H p (.lst [])) o (.lst []) o = some (.lst []) := upd_same
  have h2 : upd (upd H p (.lst [])) o (.lst []) p = some (.lst []) := by rw [upd_ne ne]; exact upd_same
  refine ⟨((Kp.new hp).snoc ho).snoc hd, (Kp.new (ms := []) hp).free ho (fun _ h => nomatch h), hp, by rw [upd_ne (ne_of_none h1 hd)]; exact h1, by rw [upd_ne (ne_of_none h2 hd)]; exact h2, fun e => ne e.symm, .inl ⟨h, d, rfl, upd_same⟩⟩
theorem in_at : ∀ i : Nat, i ≤ 20 → inV (V.int (i : Int)) [.int 0, .int 5, .int 7, .int 10, .int 14, .int 15] = decide (i = 0 ∨ i = 5 ∨ i = 7 ∨ i = 10 ∨ i = 14 ∨ i = 15) := by decide
section
variable {P : Program} {w : World} {K : PySem.W.Frag} {mg : Str → Option Value} {base : Heap}
theorem ok_caught {C : Nat → Addr} (B : Bi mg) (Z : Zb mg) (T : Ers P w K mg base C) (TK : Kits K C) (D : Dfn K mg "_law_caught" s__law_caught ["_law_which", "_law_thing", "_law_named"])
    (G_raise : Has P w K mg base (L2.CX P w) "_law_raise" ["_law_which", "_law_thing"] 3 (spRaise C)) (G_named : Has P w K mg base (L2.CX P w) "_law_raise_named" ["_law_which", "_law_thing"] 3 (spRaiseN C)) :
    Has P w K mg base CX0 "_law_caught" ["_law_which", "_law_thing", "_law_named"] 4 spCaught := by
  obtain ⟨fR, fdR, GR, gR, kR, bR⟩ := G_raise
  obtain ⟨fN, fdN, GN, gN, kN, bN⟩ := G_named
  refine D.has sc__law_caught (fun vs H Q E h => ?_) (fun f cdv A outer s H vs Q E hr h => ?_)
  · obtain ⟨i, v, nm, rfl, _⟩ := h; rfl
  · obtain ⟨i, v, nm, rfl, hi, hn, k⟩ := h
    have hr3 : Room 3 _ := hr
    have T6 : True := trivial
    refine ⟨_, (pss_cons (ps_set (i := 3) sc__law_caught.nd rfl (Or.inl rfl) (pe_lst pa_nil)) (pss_cons (ps_set (i := 4) sc__law_caught.nd rfl (Or.inl rfl) (pe_lst pa_nil)) (pss_cons (ps_set (i := 5) sc__law_caught.nd rfl (Or.inl rfl) pe_non)
      (pss_cons (ps_try_as (i := 6) (Wout := fun _ _ _ _ => False) rfl rfl sc__law_caught.nd rfl rfl ⟨rfl, by decide, .inl T.z20.gl⟩ takes0 (fun W pn xe tk _ => (pss_one (ps_if (pt_val (pv 2)) (pss_one (ps_expr (pe_callS GN hr3 rfl gN kN bN (fun σ => passAt tk σ) (pa_cons (pv 0) (pa_cons (pv 1) pa_nil))))) (pss_one (ps_expr (pe_callS GR hr3 rfl gR kR bR (fun σ => passAt tk σ) (pa_cons (pv 0) (pa_cons (pv 1) pa_nil))))))))
        (fun a oe cls d pn hz hf => (pss_cons (ps_set (i := 3) sc__law_caught.nd rfl (Or.inl rfl) (pe_lst (pa_cons (pe_callB (r := rIsX K a cls d) (call_isX hz hf) (by rfl) B.isinstance (by decide +kernel) (pa_cons (pv 6) (pa_cons (pe_glob (v := .ref (C 0)) rfl T.e0.er.gl rfl) pa_nil))) (pa_cons (pe_callB (r := rIsX K a cls d) (call_isX hz hf) (by rfl) B.isinstance (by decide +kernel) (pa_cons (pv 6) (pa_cons (pe_glob (v := .ref (C 1)) rfl T.e1.er.gl rfl) pa_nil))) (pa_cons (pe_callB (r := rIsX K a cls d) (call_isX hz hf) (by rfl) B.isinstance (by decide +kernel) (pa_cons (pv 6) (pa_cons (pe_glob (v := .ref (C 2)) rfl T.e2.er.gl rfl) pa_nil))) (pa_cons (pe_callB (r := rIsX K a cls d) (call_isX hz hf) (by rfl) B.isinstance (by decide +kernel) (pa_cons (pv 6) (pa_cons (pe_glob (v := .ref (C 3)) rfl T.e3.er.gl rfl) pa_nil))) pa_nil))))))
  (pss_cons (ps_expr (by exact (pe_bmS PySem.F.plainAttrs_list PySem.F.slot_list_extend PySem.F.type_list_extend mt_extend (pv 3) (by exact (pa_cons (pe_lst (pa_cons (pe_callB (r := rIsX K a cls d) (call_isX hz hf) (by rfl) B.isinstance (by decide +kernel) (pa_cons (pv 6) (pa_cons (pe_glob (v := .ref (C 4)) rfl T.e4.er.gl rfl) pa_nil))) (pa_cons (pe_callB (r := rIsX K a cls d) (call_isX hz hf) (by rfl) B.isinstance (by decide +kernel) (pa_cons (pv 6) (pa_cons (pe_glob (v := .ref (C 5)) rfl T.e5.er.gl rfl) pa_nil))) (pa_cons (pe_callB (r := rIsX K a cls d) (call_isX hz hf) (by rfl) B.isinstance (by decide +kernel) (pa_cons (pv 6) (pa_cons (pe_glob (v := .ref (C 6)) rfl T.e6.er.gl rfl) pa_nil))) pa_nil)))) pa_nil)))))
  (pss_cons (ps_expr (by exact (pe_bmS PySem.F.plainAttrs_list PySem.F.slot_list_extend PySem.F.type_list_extend mt_extend (pv 3) (by exact (pa_cons (pe_lst (pa_cons (pe_callB (r := rIsX K a cls d) (call_isX hz hf) (by rfl) B.isinstance (by decide +kernel) (pa_cons (pv 6) (pa_cons (pe_glob (v := .ref (C 7)) rfl T.e7.er.gl rfl) pa_nil))) (pa_cons (pe_callB (r := rIsX K a cls d) (call_isX hz hf) (by rfl) B.isinstance (by decide +kernel) (pa_cons (pv 6) (pa_cons (pe_glob (v := .ref (C 8)) rfl T.e8.er.gl rfl) pa_nil))) (pa_cons (pe_callB (r := rIsX K a cls d) (call_isX hz hf) (by rfl) B.isinstance (by decide +kernel) (pa_cons (pv 6) (pa_cons (pe_glob (v := .ref (C 9)) rfl T.e9.er.gl rfl) pa_nil))) pa_nil)))) pa_nil)))))
  (pss_cons (ps_expr (by exact (pe_bmS PySem.F.plainAttrs_list PySem.F.slot_list_extend PySem.F.type_list_extend mt_extend (pv 3) (by exact (pa_cons (pe_lst (pa_cons (pe_callB (r := rIsX K a cls d) (call_isX hz hf) (by rfl) B.isinstance (by decide +kernel) (pa_cons (pv 6) (pa_cons (pe_glob (v := .ref (C 10)) rfl T.e10.er.gl rfl) pa_nil))) (pa_cons (pe_callB (r := rIsX K a cls d) (call_isX hz hf) (by rfl) B.isinstance (by decide +kernel) (pa_cons (pv 6) (pa_cons (pe_glob (v := .ref (C 11)) rfl T.e11.er.gl rfl) pa_nil))) (pa_cons (pe_callB (r := rIsX K a cls d) (call_isX hz hf) (by rfl) B.isinstance (by decide +kernel) (pa_cons (pv 6) (pa_cons (pe_glob (v := .ref (C 12)) rfl T.e12.er.gl rfl) pa_nil))) pa_nil)))) pa_nil)))))
  (pss_cons (ps_expr (by exact (pe_bmS PySem.F.plainAttrs_list PySem.F.slot_list_extend PySem.F.type_list_extend mt_extend (pv 3) (by exact (pa_cons (pe_lst (pa_cons (pe_callB (r := rIsX K a cls d) (call_isX hz hf) (by rfl) B.isinstance (by decide +kernel) (pa_cons (pv 6) (pa_cons (pe_glob (v := .ref (C 13)) rfl T.e13.er.gl rfl) pa_nil))) (pa_cons (pe_callB (r := rIsX K a cls d) (call_isX hz hf) (by rfl) B.isinstance (by decide +kernel) (pa_cons (pv 6) (pa_cons (pe_glob (v := .ref (C 14)) rfl T.e14.er.gl rfl) pa_nil))) (pa_cons (pe_callB (r := rIsX K a cls d) (call_isX hz hf) (by rfl) B.isinstance (by decide +kernel) (pa_cons (pv 6) (pa_cons (pe_glob (v := .ref (C 15)) rfl T.e15.er.gl rfl) pa_nil))) pa_nil)))) pa_nil)))))
  (pss_cons (ps_expr (by exact (pe_bmS PySem.F.plainAttrs_list PySem.F.slot_list_extend PySem.F.type_list_extend mt_extend (pv 3) (by exact (pa_cons (pe_lst (pa_cons (pe_callB (r := rIsX K a cls d) (call_isX hz hf) (by rfl) B.isinstance (by decide +kernel) (pa_cons (pv 6) (pa_cons (pe_glob (v := .ref (C 16)) rfl T.e16.er.gl rfl) pa_nil))) (pa_cons (pe_callB (r := rIsX K a cls d) (call_isX hz hf) (by rfl) B.isinstance (by decide +kernel) (pa_cons (pv 6) (pa_cons (pe_glob (v := .ref (C 17)) rfl T.z17.gl rfl) pa_nil))) (pa_cons (pe_callB (r := rIsX K a cls d) (call_isX hz hf) (by rfl) B.isinstance (by decide +kernel) (pa_cons (pv 6) (pa_cons (pe_glob (v := .ref (C 18)) rfl T.z18.gl rfl) pa_nil))) pa_nil)))) pa_nil)))))
  (pss_cons (ps_expr (by exact (pe_bmS PySem.F.plainAttrs_list PySem.F.slot_list_append PySem.F.type_list_append mt_append (pv 3) (by exact (pa_cons (pe_callB (r := rIsX K a cls d) (call_isX hz hf) (by rfl) B.isinstance (by decide +kernel) (pa_cons (pv 6) (pa_cons (pe_glob (v := .ref (C 19)) rfl T.z19.gl rfl) pa_nil))) pa_nil)))))
  (pss_cons (ps_set (i := 4) sc__law_caught.nd rfl (Or.inl rfl) (pe_lst (pa_cons (pe_callB (r := rIsX K a cls d) (call_isX hz hf) (by rfl) B.isinstance (by decide +kernel) (pa_cons (pv 6) (pa_cons (pe_bltn (v := .ty "KeyError") (by rfl) Z.KeyError (by decide +kernel) rfl) pa_nil))) (pa_cons (pe_callB (r := rIsX K a cls d) (call_isX hz hf) (by rfl) B.isinstance (by decide +kernel) (pa_cons (pv 6) (pa_cons (pe_bltn (v := .ty "IndexError") (by rfl) Z.IndexError (by decide +kernel) rfl) pa_nil))) (pa_cons (pe_callB (r := rIsX K a cls d) (call_isX hz hf) (by rfl) B.isinstance (by decide +kernel) (pa_cons (pv 6) (pa_cons (pe_bltn (v := .ty "TypeError") (by rfl) Z.TypeError (by decide +kernel) rfl) pa_nil))) pa_nil)))))
  (pss_cons (ps_expr (by exact (pe_bmS PySem.F.plainAttrs_list PySem.F.slot_list_extend PySem.F.type_list_extend mt_extend (pv 4) (by exact (pa_cons (pe_lst (pa_cons (pe_callB (r := rIsX K a cls d) (call_isX hz hf) (by rfl) B.isinstance (by decide +kernel) (pa_cons (pv 6) (pa_cons (pe_bltn (v := .ty "ArithmeticError") (by rfl) Z.ArithmeticError (by decide +kernel) rfl) pa_nil))) (pa_cons (pe_callB (r := rIsX K a cls d) (call_isX hz hf) (by rfl) B.isinstance (by decide +kernel) (pa_cons (pv 6) (pa_cons (pe_bltn (v := .ty "RuntimeError") (by rfl) Z.RuntimeError (by decide +kernel) rfl) pa_nil))) (pa_cons (pe_not (pe_callB (r := rIsX K a cls d) (call_isX hz hf) (by rfl) B.isinstance (by decide +kernel) (pa_cons (pv 6) (pa_cons (pe_bltn (v := .ty "ValueError") (by rfl) Z.ValueError (by decide +kernel) rfl) pa_nil)))) pa_nil)))) pa_nil)))))
  (pss_one (ps_if (pt_cmpR (r := rIn K false) op_in_seq (pv 0) (pe_tup (pa_cons pe_int (pa_cons pe_int (pa_cons pe_int (pa_cons pe_int (pa_cons pe_int (pa_cons pe_int pa_nil))))))) (by rfl)) (pss_one (ps_set (i := 5) sc__law_caught.nd rfl (Or.inl rfl) (pe_xfN T6 hz hf (pv 6)))) (pss_one (ps_if (pt_cmpR op_lt (pv 0) pe_int (nomark _)) (pss_one (ps_set (i := 5) sc__law_caught.nd rfl (Or.inl rfl) (pe_xfN T6 hz hf (pv 6)))) pss_nil)))))))))))))))
      (pss_one (ps_ret (pe_tup (pa_cons (pv 3) (pa_cons (pv 4) (pa_cons (pv 5) pa_nil)))))))))), ?_⟩
    refine ⟨by decide, fun p hp => ⟨by decide, fun o ho => ⟨.bl nm, rfl, nm, rfl, ?_⟩⟩⟩
    cases nm with
    | true =>
      have h17 := hn rfl
      refine ⟨_, rfl, _, rfl, i, v, rfl, h17, fun d hd => ⟨true, TK.met i hi, fun _ a ha => ?_, fun q => nomatch q⟩⟩
      have S0 := Sx.first1 v h17 hp ho hd
      refine ⟨_, rfl, _, _, _, _, rfl, rfl, TK.ex i hi, (fun u h => h), S0.dd, TK.own i 0 hi (by decide), _, rfl, _, _, _, _, rfl, rfl, TK.ex i hi, (fun u h => h), S0.dd, TK.own i 1 hi (by decide), _, rfl, _, _, _, _, rfl, rfl, TK.ex i hi, (fun u h => h), S0.dd, TK.own i 2 hi (by decide), _, rfl, _, _, _, _, rfl, rfl, TK.ex i hi, (fun u h => h), S0.dd, TK.own i 3 hi (by decide), (sz20 (Nat.le_of_ble_eq_true rfl)), fun q0 hq0 => ?_⟩
      have S1 := S0.fresh hq0 [V.bl (decide (i = 0)), V.bl (decide (i = 1)), V.bl (decide (i = 2)), V.bl (decide (i = 3))]
      refine ⟨_, rfl, .inl ⟨rfl, _, SqL.of S1.hl⟩, _, rfl, _, _, _, _, rfl, rfl, TK.ex i hi, (fun u h => h), S1.dd, TK.own i 4 hi (by decide), _, rfl, _, _, _, _, rfl, rfl, TK.ex i hi, (fun u h => h), S1.dd, TK.own i 5 hi (by decide), _, rfl, _, _, _, _, rfl, rfl, TK.ex i hi, (fun u h => h), S1.dd, TK.own i 6 hi (by decide), (sz20 (Nat.le_of_ble_eq_true rfl)), fun q1 hq1 => ?_⟩
      have S2 := S1.new hq1 (.lst [V.bl (decide (i = 4)), V.bl (decide (i = 5)), V.bl (decide (i = 6))])
      refine ⟨_, _, _, _, rfl, rfl, S2.hl, upd_same, (sz20 (Nat.le_of_ble_eq_true rfl)), ?_⟩
      have S3 := S2.put ([V.bl (decide (i = 0)), V.bl (decide (i = 1)), V.bl (decide (i = 2)), V.bl (decide (i = 3))] ++ [V.bl (decide (i = 4)), V.bl (decide (i = 5)), V.bl (decide (i = 6))])
      refine ⟨_, rfl, .inl ⟨rfl, _, SqL.of S3.hl⟩, _, rfl, _, _, _, _, rfl, rfl, TK.ex i hi, (fun u h => h), S3.dd, TK.own i 7 hi (by decide), _, rfl, _, _, _, _, rfl, rfl, TK.ex i hi, (fun u h => h), S3.dd, TK.own i 8 hi (by decide), _, rfl, _, _, _, _, rfl, rfl, TK.ex i hi, (fun u h => h), S3.dd, TK.own i 9 hi (by decide), (sz20 (Nat.le_of_ble_eq_true rfl)), fun q3 hq3 => ?_⟩
      have S4 := S3.new hq3 (.lst [V.bl (decide (i = 7)), V.bl (decide (i = 8)), V.bl (decide (i = 9))])
      refine ⟨_, _, _, _, rfl, rfl, S4.hl, upd_same, (sz20 (Nat.le_of_ble_eq_true rfl)), ?_⟩
      have S5 := S4.put ([V.bl (decide (i = 0)), V.bl (decide (i = 1)), V.bl (decide (i = 2)), V.bl (decide (i = 3)), V.bl (decide (i = 4)), V.bl (decide (i = 5)), V.bl (decide (i = 6))] ++ [V.bl (decide (i = 7)), V.bl (decide (i = 8)), V.bl (decide (i = 9))])
      refine ⟨_, rfl, .inl ⟨rfl, _, SqL.of S5.hl⟩, _, rfl, _, _, _, _, rfl, rfl, TK.ex i hi, (fun u h => h), S5.dd, TK.own i 10 hi (by decide), _, rfl, _, _, _, _, rfl, rfl, TK.ex i hi, (fun u h => h), S5.dd, TK.own i 11 hi (by decide), _, rfl, _, _, _, _, rfl, rfl, TK.ex i hi, (fun u h => h), S5.dd, TK.own i 12 hi (by decide), (sz20 (Nat.le_of_ble_eq_true rfl)), fun q5 hq5 => ?_⟩
      have S6 := S5.new hq5 (.lst [V.bl (decide (i = 10)), V.bl (decide (i = 11)), V.bl (decide (i = 12))])
      refine ⟨_, _, _, _, rfl, rfl, S6.hl, upd_same, (sz20 (Nat.le_of_ble_eq_true rfl)), ?_⟩
      have S7 := S6.put ([V.bl (decide (i = 0)), V.bl (decide (i = 1)), V.bl (decide (i = 2)), V.bl (decide (i = 3)), V.bl (decide (i = 4)), V.bl (decide (i = 5)), V.bl (decide (i = 6)), V.bl (decide (i = 7)), V.bl (decide (i = 8)), V.bl (decide (i = 9))] ++ [V.bl (decide (i = 10)), V.bl (decide (i = 11)), V.bl (decide (i = 12))])
      refine ⟨_, rfl, .inl ⟨rfl, _, SqL.of S7.hl⟩, _, rfl, _, _, _, _, rfl, rfl, TK.ex i hi, (fun u h => h), S7.dd, TK.own i 13 hi (by decide), _, rfl, _, _, _, _, rfl, rfl, TK.ex i hi, (fun u h => h), S7.dd, TK.own i 14 hi (by decide), _, rfl, _, _, _, _, rfl, rfl, TK.ex i hi, (fun u h => h), S7.dd, TK.own i 15 hi (by decide), (sz20 (Nat.le_of_ble_eq_true rfl)), fun q7 hq7 => ?_⟩
      have S8 := S7.new hq7 (.lst [V.bl (decide (i = 13)), V.bl (decide (i = 14)), V.bl (decide (i = 15))])
      refine ⟨_, _, _, _, rfl, rfl, S8.hl, upd_same, (sz20 (Nat.le_of_ble_eq_true rfl)), ?_⟩
      have S9 := S8.put ([V.bl (decide (i = 0)), V.bl (decide (i = 1)), V.bl (decide (i = 2)), V.bl (decide (i = 3)), V.bl (decide (i = 4)), V.bl (decide (i = 5)), V.bl (decide (i = 6)), V.bl (decide (i = 7)), V.bl (decide (i = 8)), V.bl (decide (i = 9)), V.bl (decide (i = 10)), V.bl (decide (i = 11)), V.bl (decide (i = 12))] ++ [V.bl (decide (i = 13)), V.bl (decide (i = 14)), V.bl (decide (i = 15))])
      refine ⟨_, rfl, .inl ⟨rfl, _, SqL.of S9.hl⟩, _, rfl, _, _, _, _, rfl, rfl, TK.ex i hi, (fun u h => h), S9.dd, TK.own i 16 hi (by decide), _, rfl, _, _, _, _, rfl, rfl, TK.ex i hi, (fun u h => h), S9.dd, TK.own i 17 hi (by decide), _, rfl, _, _, _, _, rfl, rfl, TK.ex i hi, (fun u h => h), S9.dd, TK.own i 18 hi (by decide), (sz20 (Nat.le_of_ble_eq_true rfl)), fun q9 hq9 => ?_⟩
      have S10 := S9.new hq9 (.lst [V.bl (decide (i = 16)), V.bl (decide (i = 17)), V.bl (decide (i = 18))])
      refine ⟨_, _, _, _, rfl, rfl, S10.hl, upd_same, (sz20 (Nat.le_of_ble_eq_true rfl)), ?_⟩
      have S11 := S10.put ([V.bl (decide (i = 0)), V.bl (decide (i = 1)), V.bl (decide (i = 2)), V.bl (decide (i = 3)), V.bl (decide (i = 4)), V.bl (decide (i = 5)), V.bl (decide (i = 6)), V.bl (decide (i = 7)), V.bl (decide (i = 8)), V.bl (decide (i = 9)), V.bl (decide (i = 10)), V.bl (decide (i = 11)), V.bl (decide (i = 12)), V.bl (decide (i = 13)), V.bl (decide (i = 14)), V.bl (decide (i = 15))] ++ [V.bl (decide (i = 16)), V.bl (decide (i = 17)), V.bl (decide (i = 18))])
      refine ⟨_, rfl, .inl ⟨rfl, _, SqL.of S11.hl⟩, _, rfl, _, _, _, _, rfl, rfl, TK.ex i hi, (fun u h => h), S11.dd, TK.own i 19 hi (by decide), _, _, _, rfl, rfl, S11.hl, (sz20' (Nat.le_of_ble_eq_true rfl)), ?_⟩
      have S12 := S11.put ([V.bl (decide (i = 0)), V.bl (decide (i = 1)), V.bl (decide (i = 2)), V.bl (decide (i = 3)), V.bl (decide (i = 4)), V.bl (decide (i = 5)), V.bl (decide (i = 6)), V.bl (decide (i = 7)), V.bl (decide (i = 8)), V.bl (decide (i = 9)), V.bl (decide (i = 10)), V.bl (decide (i = 11)), V.bl (decide (i = 12)), V.bl (decide (i = 13)), V.bl (decide (i = 14)), V.bl (decide (i = 15)), V.bl (decide (i = 16)), V.bl (decide (i = 17)), V.bl (decide (i = 18))] ++ [V.bl (decide (i = 19))])
      refine ⟨_, rfl, _, _, _, _, rfl, rfl, TK.ex i hi, (fun u h => h), S12.dd, TK.no i hi "KeyError" (by decide), _, rfl, _, _, _, _, rfl, rfl, TK.ex i hi, (fun u h => h), S12.dd, TK.no i hi "IndexError" (by decide), _, rfl, _, _, _, _, rfl, rfl, TK.ex i hi, (fun u h => h), S12.dd, TK.no i hi "TypeError" (by decide), (sz20 (Nat.le_of_ble_eq_true rfl)), fun q12 hq12 => ?_⟩
      have S13 := S12.fresh hq12 [V.bl false, V.bl false, V.bl false]
      refine ⟨_, rfl, .inl ⟨rfl, _, SqL.of S13.hl⟩, _, rfl, _, _, _, _, rfl, rfl, TK.ex i hi, (fun u h => h), S13.dd, TK.no i hi "ArithmeticError" (by decide), _, rfl, _, _, _, _, rfl, rfl, TK.ex i hi, (fun u h => h), S13.dd, TK.no i hi "RuntimeError" (by decide), _, rfl, _, _, _, _, rfl, rfl, TK.ex i hi, (fun u h => h), S13.dd, TK.ve i hi, _, rfl, (sz20 (Nat.le_of_ble_eq_true rfl)), fun q13 hq13 => ?_⟩
      have S14 := S13.new hq13 (.lst [V.bl false, V.bl false, V.bl (!true)])
      refine ⟨_, _, _, _, rfl, rfl, S14.hl, upd_same, (sz20 (Nat.le_of_ble_eq_true rfl)), ?_⟩
      have S15 := S14.put ([V.bl false, V.bl false, V.bl false] ++ [V.bl false, V.bl false, V.bl (!true)])
      refine ⟨_, rfl, (sz20 (Nat.le_of_ble_eq_true rfl)), fun t ht => ⟨t, _, rfl, .inr (SqT.of upd_same), rfl, rfl, _, rfl, ?_⟩⟩
      have S16 := S15.new ht (.tup [.int 0, .int 5, .int 7, .int 10, .int 14, .int 15])
      have ia := in_at i hi
      by_cases ha5 : i = 0 ∨ i = 5 ∨ i = 7 ∨ i = 10 ∨ i = 14 ∨ i = 15
      · have i17 : i < 17 := by omega
        have ef : fld i = "at" := if_pos ha5
        obtain ⟨_, dd, ed, hdd⟩ | ⟨z, _⟩ := S16.dk
        · refine (if_pos (by rw [if_neg (by decide), ia]; exact decide_eq_true ha5)).mpr ?_
          refine ⟨_, rfl, rfl, C i, dd, _, v, rfl, (TK.xf i i17).1, (by have z := (TK.xf i i17).2; rw [ef] at z; exact z), ed, hdd, (by rw [ef]; rfl), ?_⟩
          refine ⟨_, rfl, _, rfl, _, rfl, (sz20 (Nat.le_of_ble_eq_true rfl)), fun r0 hr0 => k r0 _ _ _ (S16.kp.snoc hr0) (by rw [if_pos i17]; exact upd_same) (by rw [upd_ne (ne_of_none S16.hm hr0)]; exact S16.hm) (by rw [upd_ne (ne_of_none S16.hl hr0)]; exact S16.hl)⟩
        · omega
      · have ef : fld i = "value" := if_neg ha5
        refine (if_neg (by rw [if_neg (by decide), ia]; exact fun z => ha5 (of_decide_eq_true z))).mpr ?_
        refine ⟨_, rfl, _, _, rfl, rfl, _, rfl, ?_⟩
        obtain ⟨i17, dd, ed, hdd⟩ | ⟨z, _⟩ := S16.dk
        · refine (if_pos (decide_eq_true (by omega))).mpr ?_
          refine ⟨_, rfl, rfl, C i, dd, _, v, rfl, (TK.xf i i17).1, (by have z := (TK.xf i i17).2; rw [ef] at z; exact z), ed, hdd, (by rw [ef]; rfl), ?_⟩
          refine ⟨_, rfl, _, rfl, _, rfl, (sz20 (Nat.le_of_ble_eq_true rfl)), fun r0 hr0 => k r0 _ _ _ (S16.kp.snoc hr0) (by rw [if_pos i17]; exact upd_same) (by rw [upd_ne (ne_of_none S16.hm hr0)]; exact S16.hm) (by rw [upd_ne (ne_of_none S16.hl hr0)]; exact S16.hl)⟩
        · refine (if_neg (fun y => by have y := of_decide_eq_true y; omega)).mpr ?_
          refine ⟨_, rfl, _, rfl, _, rfl, (sz20 (Nat.le_of_ble_eq_true rfl)), fun r0 hr0 => k r0 _ _ _ (S16.kp.snoc hr0) (by rw [if_neg (by omega)]; exact upd_same) (by rw [upd_ne (ne_of_none S16.hm hr0)]; exact S16.hm) (by rw [upd_ne (ne_of_none S16.hl hr0)]; exact S16.hl)⟩
    | false =>
      refine ⟨_, rfl, _, rfl, i, v, rfl, hi, fun h17 d hd => ⟨true, TK.met i hi, fun _ a ha => ?_, fun q => nomatch q⟩, fun h17 => ⟨true, TK.met i hi, fun _ a ha => ?_, fun q => nomatch q⟩⟩
      · have S0 := Sx.first1 v h17 hp ho hd
        refine ⟨_, rfl, _, _, _, _, rfl, rfl, TK.ex i hi, (fun u h => h), S0.dd, TK.own i 0 hi (by decide), _, rfl, _, _, _, _, rfl, rfl, TK.ex i hi, (fun u h => h), S0.dd, TK.own i 1 hi (by decide), _, rfl, _, _, _, _, rfl, rfl, TK.ex i hi, (fun u h => h), S0.dd, TK.own i 2 hi (by decide), _, rfl, _, _, _, _, rfl, rfl, TK.ex i hi, (fun u h => h), S0.dd, TK.own i 3 hi (by decide), (sz20 (Nat.le_of_ble_eq_true rfl)), fun q0 hq0 => ?_⟩
        have S1 := S0.fresh hq0 [V.bl (decide (i = 0)), V.bl (decide (i = 1)), V.bl (decide (i = 2)), V.bl (decide (i = 3))]
        refine ⟨_, rfl, .inl ⟨rfl, _, SqL.of S1.hl⟩, _, rfl, _, _, _, _, rfl, rfl, TK.ex i hi, (fun u h => h), S1.dd, TK.own i 4 hi (by decide), _, rfl, _, _, _, _, rfl, rfl, TK.ex i hi, (fun u h => h), S1.dd, TK.own i 5 hi (by decide), _, rfl, _, _, _, _, rfl, rfl, TK.ex i hi, (fun u h => h), S1.dd, TK.own i 6 hi (by decide), (sz20 (Nat.le_of_ble_eq_true rfl)), fun q1 hq1 => ?_⟩
        have S2 := S1.new hq1 (.lst [V.bl (decide (i = 4)), V.bl (decide (i = 5)), V.bl (decide (i = 6))])
        refine ⟨_, _, _, _, rfl, rfl, S2.hl, upd_same, (sz20 (Nat.le_of_ble_eq_true rfl)), ?_⟩
        have S3 := S2.put ([V.bl (decide (i = 0)), V.bl (decide (i = 1)), V.bl (decide (i = 2)), V.bl (decide (i = 3))] ++ [V.bl (decide (i = 4)), V.bl (decide (i = 5)), V.bl (decide (i = 6))])
        refine ⟨_, rfl, .inl ⟨rfl, _, SqL.of S3.hl⟩, _, rfl, _, _, _, _, rfl, rfl, TK.ex i hi, (fun u h => h), S3.dd, TK.own i 7 hi (by decide), _, rfl, _, _, _, _, rfl, rfl, TK.ex i hi, (fun u h => h), S3.dd, TK.own i 8 hi (by decide), _, rfl, _, _, _, _, rfl, rfl, TK.ex i hi, (fun u h => h), S3.dd, TK.own i 9 hi (by decide), (sz20 (Nat.le_of_ble_eq_true rfl)), fun q3 hq3 => ?_⟩
        have S4 := S3.new hq3 (.lst [V.bl (decide (i = 7)), V.bl (decide (i = 8)), V.bl (decide (i = 9))])
        refine ⟨_, _, _, _, rfl, rfl, S4.hl, upd_same, (sz20 (Nat.le_of_ble_eq_true rfl)), ?_⟩
        have S5 := S4.put ([V.bl (decide (i = 0)), V.bl (decide (i = 1)), V.bl (decide (i = 2)), V.bl (decide (i = 3)), V.bl (decide (i = 4)), V.bl (decide (i = 5)), V.bl (decide (i = 6))] ++ [V.bl (decide (i = 7)), V.bl (decide (i = 8)), V.bl (decide (i = 9))])
        refine ⟨_, rfl, .inl ⟨rfl, _, SqL.of S5.hl⟩, _, rfl, _, _, _, _, rfl, rfl, TK.ex i hi, (fun u h => h), S5.dd, TK.own i 10 hi (by decide), _, rfl, _, _, _, _, rfl, rfl, TK.ex i hi, (fun u h => h), S5.dd, TK.own i 11 hi (by decide), _, rfl, _, _, _, _, rfl, rfl, TK.ex i hi, (fun u h => h), S5.dd, TK.own i 12 hi (by decide), (sz20 (Nat.le_of_ble_eq_true rfl)), fun q5 hq5 => ?_⟩
        have S6 := S5.new hq5 (.lst [V.bl (decide (i = 10)), V.bl (decide (i = 11)), V.bl (decide (i = 12))])
        refine ⟨_, _, _, _, rfl, rfl, S6.hl, upd_same, (sz20 (Nat.le_of_ble_eq_true rfl)), ?_⟩
        have S7 := S6.put ([V.bl (decide (i = 0)), V.bl (decide (i = 1)), V.bl (decide (i = 2)), V.bl (decide (i = 3)), V.bl (decide (i = 4)), V.bl (decide (i = 5)), V.bl (decide (i = 6)), V.bl (decide (i = 7)), V.bl (decide (i = 8)), V.bl (decide (i = 9))] ++ [V.bl (decide (i = 10)), V.bl (decide (i = 11)), V.bl (decide (i = 12))])
        refine ⟨_, rfl, .inl ⟨rfl, _, SqL.of S7.hl⟩, _, rfl, _, _, _, _, rfl, rfl, TK.ex i hi, (fun u h => h), S7.dd, TK.own i 13 hi (by decide), _, rfl, _, _, _, _, rfl, rfl, TK.ex i hi, (fun u h => h), S7.dd, TK.own i 14 hi (by decide), _, rfl, _, _, _, _, rfl, rfl, TK.ex i hi, (fun u h => h), S7.dd, TK.own i 15 hi (by decide), (sz20 (Nat.le_of_ble_eq_true rfl)), fun q7 hq7 => ?_⟩
        have S8 := S7.new hq7 (.lst [V.bl (decide (i = 13)), V.bl (decide (i = 14)), V.bl (decide (i = 15))])
        refine ⟨_, _, _, _, rfl, rfl, S8.hl, upd_same, (sz20 (Nat.le_of_ble_eq_true rfl)), ?_⟩
        have S9 := S8.put ([V.bl (decide (i = 0)), V.bl (decide (i = 1)), V.bl (decide (i = 2)), V.bl (decide (i = 3)), V.bl (decide (i = 4)), V.bl (decide (i = 5)), V.bl (decide (i = 6)), V.bl (decide (i = 7)), V.bl (decide (i = 8)), V.bl (decide (i = 9)), V.bl (decide (i = 10)), V.bl (decide (i = 11)), V.bl (decide (i = 12))] ++ [V.bl (decide (i = 13)), V.bl (decide (i = 14)), V.bl (decide (i = 15))])
        refine ⟨_, rfl, .inl ⟨rfl, _, SqL.of S9.hl⟩, _, rfl, _, _, _, _, rfl, rfl, TK.ex i hi, (fun u h => h), S9.dd, TK.own i 16 hi (by decide), _, rfl, _, _, _, _, rfl, rfl, TK.ex i hi, (fun u h => h), S9.dd, TK.own i 17 hi (by decide), _, rfl, _, _, _, _, rfl, rfl, TK.ex i hi, (fun u h => h), S9.dd, TK.own i 18 hi (by decide), (sz20 (Nat.le_of_ble_eq_true rfl)), fun q9 hq9 => ?_⟩
        have S10 := S9.new hq9 (.lst [V.bl (decide (i = 16)), V.bl (decide (i = 17)), V.bl (decide (i = 18))])
        refine ⟨_, _, _, _, rfl, rfl, S10.hl, upd_same, (sz20 (Nat.le_of_ble_eq_true rfl)), ?_⟩
        have S11 := S10.put ([V.bl (decide (i = 0)), V.bl (decide (i = 1)), V.bl (decide (i = 2)), V.bl (decide (i = 3)), V.bl (decide (i = 4)), V.bl (decide (i = 5)), V.bl (decide (i = 6)), V.bl (decide (i = 7)), V.bl (decide (i = 8)), V.bl (decide (i = 9)), V.bl (decide (i = 10)), V.bl (decide (i = 11)), V.bl (decide (i = 12)), V.bl (decide (i = 13)), V.bl (decide (i = 14)), V.bl (decide (i = 15))] ++ [V.bl (decide (i = 16)), V.bl (decide (i = 17)), V.bl (decide (i = 18))])
        refine ⟨_, rfl, .inl ⟨rfl, _, SqL.of S11.hl⟩, _, rfl, _, _, _, _, rfl, rfl, TK.ex i hi, (fun u h => h), S11.dd, TK.own i 19 hi (by decide), _, _, _, rfl, rfl, S11.hl, (sz20' (Nat.le_of_ble_eq_true rfl)), ?_⟩
        have S12 := S11.put ([V.bl (decide (i = 0)), V.bl (decide (i = 1)), V.bl (decide (i = 2)), V.bl (decide (i = 3)), V.bl (decide (i = 4)), V.bl (decide (i = 5)), V.bl (decide (i = 6)), V.bl (decide (i = 7)), V.bl (decide (i = 8)), V.bl (decide (i = 9)), V.bl (decide (i = 10)), V.bl (decide (i = 11)), V.bl (decide (i = 12)), V.bl (decide (i = 13)), V.bl (decide (i = 14)), V.bl (decide (i = 15)), V.bl (decide (i = 16)), V.bl (decide (i = 17)), V.bl (decide (i = 18))] ++ [V.bl (decide (i = 19))])
        refine ⟨_, rfl, _, _, _, _, rfl, rfl, TK.ex i hi, (fun u h => h), S12.dd, TK.no i hi "KeyError" (by decide), _, rfl, _, _, _, _, rfl, rfl, TK.ex i hi, (fun u h => h), S12.dd, TK.no i hi "IndexError" (by decide), _, rfl, _, _, _, _, rfl, rfl, TK.ex i hi, (fun u h => h), S12.dd, TK.no i hi "TypeError" (by decide), (sz20 (Nat.le_of_ble_eq_true rfl)), fun q12 hq12 => ?_⟩
        have S13 := S12.fresh hq12 [V.bl false, V.bl false, V.bl false]
        refine ⟨_, rfl, .inl ⟨rfl, _, SqL.of S13.hl⟩, _, rfl, _, _, _, _, rfl, rfl, TK.ex i hi, (fun u h => h), S13.dd, TK.no i hi "ArithmeticError" (by decide), _, rfl, _, _, _, _, rfl, rfl, TK.ex i hi, (fun u h => h), S13.dd, TK.no i hi "RuntimeError" (by decide), _, rfl, _, _, _, _, rfl, rfl, TK.ex i hi, (fun u h => h), S13.dd, TK.ve i hi, _, rfl, (sz20 (Nat.le_of_ble_eq_true rfl)), fun q13 hq13 => ?_⟩
        have S14 := S13.new hq13 (.lst [V.bl false, V.bl false, V.bl (!true)])
        refine ⟨_, _, _, _, rfl, rfl, S14.hl, upd_same, (sz20 (Nat.le_of_ble_eq_true rfl)), ?_⟩
        have S15 := S14.put ([V.bl false, V.bl false, V.bl false] ++ [V.bl false, V.bl false, V.bl (!true)])
        refine ⟨_, rfl, (sz20 (Nat.le_of_ble_eq_true rfl)), fun t ht => ⟨t, _, rfl, .inr (SqT.of upd_same), rfl, rfl, _, rfl, ?_⟩⟩
        have S16 := S15.new ht (.tup [.int 0, .int 5, .int 7, .int 10, .int 14, .int 15])
        have ia := in_at i hi
        by_cases ha5 : i = 0 ∨ i = 5 ∨ i = 7 ∨ i = 10 ∨ i = 14 ∨ i = 15
        · have i17 : i < 17 := by omega
          have ef : fld i = "at" := if_pos ha5
          obtain ⟨_, dd, ed, hdd⟩ | ⟨z, _⟩ := S16.dk
          · refine (if_pos (by rw [if_neg (by decide), ia]; exact decide_eq_true ha5)).mpr ?_
            refine ⟨_, rfl, rfl, C i, dd, _, v, rfl, (TK.xf i i17).1, (by have z := (TK.xf i i17).2; rw [ef] at z; exact z), ed, hdd, (by rw [ef]; rfl), ?_⟩
            refine ⟨_, rfl, _, rfl, _, rfl, (sz20 (Nat.le_of_ble_eq_true rfl)), fun r0 hr0 => k r0 _ _ _ (S16.kp.snoc hr0) (by rw [if_pos i17]; exact upd_same) (by rw [upd_ne (ne_of_none S16.hm hr0)]; exact S16.hm) (by rw [upd_ne (ne_of_none S16.hl hr0)]; exact S16.hl)⟩
          · omega
        · have ef : fld i = "value" := if_neg ha5
          refine (if_neg (by rw [if_neg (by decide), ia]; exact fun z => ha5 (of_decide_eq_true z))).mpr ?_
          refine ⟨_, rfl, _, _, rfl, rfl, _, rfl, ?_⟩
          obtain ⟨i17, dd, ed, hdd⟩ | ⟨z, _⟩ := S16.dk
          · refine (if_pos (decide_eq_true (by omega))).mpr ?_
            refine ⟨_, rfl, rfl, C i, dd, _, v, rfl, (TK.xf i i17).1, (by have z := (TK.xf i i17).2; rw [ef] at z; exact z), ed, hdd, (by rw [ef]; rfl), ?_⟩
            refine ⟨_, rfl, _, rfl, _, rfl, (sz20 (Nat.le_of_ble_eq_true rfl)), fun r0 hr0 => k r0 _ _ _ (S16.kp.snoc hr0) (by rw [if_pos i17]; exact upd_same) (by rw [upd_ne (ne_of_none S16.hm hr0)]; exact S16.hm) (by rw [upd_ne (ne_of_none S16.hl hr0)]; exact S16.hl)⟩
          · refine (if_neg (fun y => by have y := of_decide_eq_true y; omega)).mpr ?_
            refine ⟨_, rfl, _, rfl, _, rfl, (sz20 (Nat.le_of_ble_eq_true rfl)), fun r0 hr0 => k r0 _ _ _ (S16.kp.snoc hr0) (by rw [if_neg (by omega)]; exact upd_same) (by rw [upd_ne (ne_of_none S16.hm hr0)]; exact S16.hm) (by rw [upd_ne (ne_of_none S16.hl hr0)]; exact S16.hl)⟩
      · have S0 := Sx.first0 v h17 hp ho
        refine ⟨_, rfl, _, _, _, _, rfl, rfl, TK.ex i hi, (fun u h => h), S0.dd, TK.own i 0 hi (by decide), _, rfl, _, _, _, _, rfl, rfl, TK.ex i hi, (fun u h => h), S0.dd, TK.own i 1 hi (by decide), _, rfl, _, _, _, _, rfl, rfl, TK.ex i hi, (fun u h => h), S0.dd, TK.own i 2 hi (by decide), _, rfl, _, _, _, _, rfl, rfl, TK.ex i hi, (fun u h => h), S0.dd, TK.own i 3 hi (by decide), (sz20 (Nat.le_of_ble_eq_true rfl)), fun q0 hq0 => ?_⟩
        have S1 := S0.fresh hq0 [V.bl (decide (i = 0)), V.bl (decide (i = 1)), V.bl (decide (i = 2)), V.bl (decide (i = 3))]
        refine ⟨_, rfl, .inl ⟨rfl, _, SqL.of S1.hl⟩, _, rfl, _, _, _, _, rfl, rfl, TK.ex i hi, (fun u h => h), S1.dd, TK.own i 4 hi (by decide), _, rfl, _, _, _, _, rfl, rfl, TK.ex i hi, (fun u h => h), S1.dd, TK.own i 5 hi (by decide), _, rfl, _, _, _, _, rfl, rfl, TK.ex i hi, (fun u h => h), S1.dd, TK.own i 6 hi (by decide), (sz20 (Nat.le_of_ble_eq_true rfl)), fun q1 hq1 => ?_⟩
        have S2 := S1.new hq1 (.lst [V.bl (decide (i = 4)), V.bl (decide (i = 5)), V.bl (decide (i = 6))])
        refine ⟨_, _, _, _, rfl, rfl, S2.hl, upd_same, (sz20 (Nat.le_of_ble_eq_true rfl)), ?_⟩
        have S3 := S2.put ([V.bl (decide (i = 0)), V.bl (decide (i = 1)), V.bl (decide (i = 2)), V.bl (decide (i = 3))] ++ [V.bl (decide (i = 4)), V.bl (decide (i = 5)), V.bl (decide (i = 6))])
        refine ⟨_, rfl, .inl ⟨rfl, _, SqL.of S3.hl⟩, _, rfl, _, _, _, _, rfl, rfl, TK.ex i hi, (fun u h => h), S3.dd, TK.own i 7 hi (by decide), _, rfl, _, _, _, _, rfl, rfl, TK.ex i hi, (fun u h => h), S3.dd, TK.own i 8 hi (by decide), _, rfl, _, _, _, _, rfl, rfl, TK.ex i hi, (fun u h => h), S3.dd, TK.own i 9 hi (by decide), (sz20 (Nat.le_of_ble_eq_true rfl)), fun q3 hq3 => ?_⟩
        have S4 := S3.new hq3 (.lst [V.bl (decide (i = 7)), V.bl (decide (i = 8)), V.bl (decide (i = 9))])
        refine ⟨_, _, _, _, rfl, rfl, S4.hl, upd_same, (sz20 (Nat.le_of_ble_eq_true rfl)), ?_⟩
        have S5 := S4.put ([V.bl (decide (i = 0)), V.bl (decide (i = 1)), V.bl (decide (i = 2)), V.bl (decide (i = 3)), V.bl (decide (i = 4)), V.bl (decide (i = 5)), V.bl (decide (i = 6))] ++ [V.bl (decide (i = 7)), V.bl (decide (i = 8)), V.bl (decide (i = 9))])
        refine ⟨_, rfl, .inl ⟨rfl, _, SqL.of S5.hl⟩, _, rfl, _, _, _, _, rfl, rfl, TK.ex i hi, (fun u h => h), S5.dd, TK.own i 10 hi (by decide), _, rfl, _, _, _, _, rfl, rfl, TK.ex i hi, (fun u h => h), S5.dd, TK.own i 11 hi (by decide), _, rfl, _, _, _, _, rfl, rfl, TK.ex i hi, (fun u h => h), S5.dd, TK.own i 12 hi (by decide), (sz20 (Nat.le_of_ble_eq_true rfl)), fun q5 hq5 => ?_⟩
        have S6 := S5.new hq5 (.lst [V.bl (decide (i = 10)), V.bl (decide (i = 11)), V.bl (decide (i = 12))])
        refine ⟨_, _, _, _, rfl, rfl, S6.hl, upd_same, (sz20 (Nat.le_of_ble_eq_true rfl)), ?_⟩
        have S7 := S6.put ([V.bl (decide (i = 0)), V.bl (decide (i = 1)), V.bl (decide (i = 2)), V.bl (decide (i = 3)), V.bl (decide (i = 4)), V.bl (decide (i = 5)), V.bl (decide (i = 6)), V.bl (decide (i = 7)), V.bl (decide (i = 8)), V.bl (decide (i = 9))] ++ [V.bl (decide (i = 10)), V.bl (decide (i = 11)), V.bl (decide (i = 12))])
        refine ⟨_, rfl, .inl ⟨rfl, _, SqL.of S7.hl⟩, _, rfl, _, _, _, _, rfl, rfl, TK.ex i hi, (fun u h => h), S7.dd, TK.own i 13 hi (by decide), _, rfl, _, _, _, _, rfl, rfl, TK.ex i hi, (fun u h => h), S7.dd, TK.own i 14 hi (by decide), _, rfl, _, _, _, _, rfl, rfl, TK.ex i hi, (fun u h => h), S7.dd, TK.own i 15 hi (by decide), (sz20 (Nat.le_of_ble_eq_true rfl)), fun q7 hq7 => ?_⟩
        have S8 := S7.new hq7 (.lst [V.bl (decide (i = 13)), V.bl (decide (i = 14)), V.bl (decide (i = 15))])
        refine ⟨_, _, _, _, rfl, rfl, S8.hl, upd_same, (sz20 (Nat.le_of_ble_eq_true rfl)), ?_⟩
        have S9 := S8.put ([V.bl (decide (i = 0)), V.bl (decide (i = 1)), V.bl (decide (i = 2)), V.bl (decide (i = 3)), V.bl (decide (i = 4)), V.bl (decide (i = 5)), V.bl (decide (i = 6)), V.bl (decide (i = 7)), V.bl (decide (i = 8)), V.bl (decide (i = 9)), V.bl (decide (i = 10)), V.bl (decide (i = 11)), V.bl (decide (i = 12))] ++ [V.bl (decide (i = 13)), V.bl (decide (i = 14)), V.bl (decide (i = 15))])
        refine ⟨_, rfl, .inl ⟨rfl, _, SqL.of S9.hl⟩, _, rfl, _, _, _, _, rfl, rfl, TK.ex i hi, (fun u h => h), S9.dd, TK.own i 16 hi (by decide), _, rfl, _, _, _, _, rfl, rfl, TK.ex i hi, (fun u h => h), S9.dd, TK.own i 17 hi (by decide), _, rfl, _, _, _, _, rfl, rfl, TK.ex i hi, (fun u h => h), S9.dd, TK.own i 18 hi (by decide), (sz20 (Nat.le_of_ble_eq_true rfl)), fun q9 hq9 => ?_⟩
        have S10 := S9.new hq9 (.lst [V.bl (decide (i = 16)), V.bl (decide (i = 17)), V.bl (decide (i = 18))])
        refine ⟨_, _, _, _, rfl, rfl, S10.hl, upd_same, (sz20 (Nat.le_of_ble_eq_true rfl)), ?_⟩
        have S11 := S10.put ([V.bl (decide (i = 0)), V.bl (decide (i = 1)), V.bl (decide (i = 2)), V.bl (decide (i = 3)), V.bl (decide (i = 4)), V.bl (decide (i = 5)), V.bl (decide (i = 6)), V.bl (decide (i = 7)), V.bl (decide (i = 8)), V.bl (decide (i = 9)), V.bl (decide (i = 10)), V.bl (decide (i = 11)), V.bl (decide (i = 12)), V.bl (decide (i = 13)), V.bl (decide (i = 14)), V.bl (decide (i = 15))] ++ [V.bl (decide (i = 16)), V.bl (decide (i = 17)), V.bl (decide (i = 18))])
        refine ⟨_, rfl, .inl ⟨rfl, _, SqL.of S11.hl⟩, _, rfl, _, _, _, _, rfl, rfl, TK.ex i hi, (fun u h => h), S11.dd, TK.own i 19 hi (by decide), _, _, _, rfl, rfl, S11.hl, (sz20' (Nat.le_of_ble_eq_true rfl)), ?_⟩
        have S12 := S11.put ([V.bl (decide (i = 0)), V.bl (decide (i = 1)), V.bl (decide (i = 2)), V.bl (decide (i = 3)), V.bl (decide (i = 4)), V.bl (decide (i = 5)), V.bl (decide (i = 6)), V.bl (decide (i = 7)), V.bl (decide (i = 8)), V.bl (decide (i = 9)), V.bl (decide (i = 10)), V.bl (decide (i = 11)), V.bl (decide (i = 12)), V.bl (decide (i = 13)), V.bl (decide (i = 14)), V.bl (decide (i = 15)), V.bl (decide (i = 16)), V.bl (decide (i = 17)), V.bl (decide (i = 18))] ++ [V.bl (decide (i = 19))])
        refine ⟨_, rfl, _, _, _, _, rfl, rfl, TK.ex i hi, (fun u h => h), S12.dd, TK.no i hi "KeyError" (by decide), _, rfl, _, _, _, _, rfl, rfl, TK.ex i hi, (fun u h => h), S12.dd, TK.no i hi "IndexError" (by decide), _, rfl, _, _, _, _, rfl, rfl, TK.ex i hi, (fun u h => h), S12.dd, TK.no i hi "TypeError" (by decide), (sz20 (Nat.le_of_ble_eq_true rfl)), fun q12 hq12 => ?_⟩
        have S13 := S12.fresh hq12 [V.bl false, V.bl false, V.bl false]
        refine ⟨_, rfl, .inl ⟨rfl, _, SqL.of S13.hl⟩, _, rfl, _, _, _, _, rfl, rfl, TK.ex i hi, (fun u h => h), S13.dd, TK.no i hi "ArithmeticError" (by decide), _, rfl, _, _, _, _, rfl, rfl, TK.ex i hi, (fun u h => h), S13.dd, TK.no i hi "RuntimeError" (by decide), _, rfl, _, _, _, _, rfl, rfl, TK.ex i hi, (fun u h => h), S13.dd, TK.ve i hi, _, rfl, (sz20 (Nat.le_of_ble_eq_true rfl)), fun q13 hq13 => ?_⟩
        have S14 := S13.new hq13 (.lst [V.bl false, V.bl false, V.bl (!true)])
        refine ⟨_, _, _, _, rfl, rfl, S14.hl, upd_same, (sz20 (Nat.le_of_ble_eq_true rfl)), ?_⟩
        have S15 := S14.put ([V.bl false, V.bl false, V.bl false] ++ [V.bl false, V.bl false, V.bl (!true)])
        refine ⟨_, rfl, (sz20 (Nat.le_of_ble_eq_true rfl)), fun t ht => ⟨t, _, rfl, .inr (SqT.of upd_same), rfl, rfl, _, rfl, ?_⟩⟩
        have S16 := S15.new ht (.tup [.int 0, .int 5, .int 7, .int 10, .int 14, .int 15])
        have ia := in_at i hi
        by_cases ha5 : i = 0 ∨ i = 5 ∨ i = 7 ∨ i = 10 ∨ i = 14 ∨ i = 15
        · have i17 : i < 17 := by omega
          have ef : fld i = "at" := if_pos ha5
          obtain ⟨_, dd, ed, hdd⟩ | ⟨z, _⟩ := S16.dk
          · refine (if_pos (by rw [if_neg (by decide), ia]; exact decide_eq_true ha5)).mpr ?_
            refine ⟨_, rfl, rfl, C i, dd, _, v, rfl, (TK.xf i i17).1, (by have z := (TK.xf i i17).2; rw [ef] at z; exact z), ed, hdd, (by rw [ef]; rfl), ?_⟩
            refine ⟨_, rfl, _, rfl, _, rfl, (sz20 (Nat.le_of_ble_eq_true rfl)), fun r0 hr0 => k r0 _ _ _ (S16.kp.snoc hr0) (by rw [if_pos i17]; exact upd_same) (by rw [upd_ne (ne_of_none S16.hm hr0)]; exact S16.hm) (by rw [upd_ne (ne_of_none S16.hl hr0)]; exact S16.hl)⟩
          · omega
        · have ef : fld i = "value" := if_neg ha5
          refine (if_neg (by rw [if_neg (by decide), ia]; exact fun z => ha5 (of_decide_eq_true z))).mpr ?_
          refine ⟨_, rfl, _, _, rfl, rfl, _, rfl, ?_⟩
          obtain ⟨i17, dd, ed, hdd⟩ | ⟨z, _⟩ := S16.dk
          · refine (if_pos (decide_eq_true (by omega))).mpr ?_
            refine ⟨_, rfl, rfl, C i, dd, _, v, rfl, (TK.xf i i17).1, (by have z := (TK.xf i i17).2; rw [ef] at z; exact z), ed, hdd, (by rw [ef]; rfl), ?_⟩
            refine ⟨_, rfl, _, rfl, _, rfl, (sz20 (Nat.le_of_ble_eq_true rfl)), fun r0 hr0 => k r0 _ _ _ (S16.kp.snoc hr0) (by rw [if_pos i17]; exact upd_same) (by rw [upd_ne (ne_of_none S16.hm hr0)]; exact S16.hm) (by rw [upd_ne (ne_of_none S16.hl hr0)]; exact S16.hl)⟩
          · refine (if_neg (fun y => by have y := of_decide_eq_true y; omega)).mpr ?_
            refine ⟨_, rfl, _, rfl, _, rfl, (sz20 (Nat.le_of_ble_eq_true rfl)), fun r0 hr0 => k r0 _ _ _ (S16.kp.snoc hr0) (by rw [if_neg (by omega)]; exact upd_same) (by rw [upd_ne (ne_of_none S16.hm hr0)]; exact S16.hm) (by rw [upd_ne (ne_of_none S16.hl hr0)]; exact S16.hl)⟩
end
end Fm

namespace Fm
open PySem PySem.Spec PyProof.Rows L2
def spLaw (K : PySem.W.Frag) : Sp := fun vs H Q _ => ∃ (a : Addr) (ns : List Int), vs = [.ref a] ∧ SqL K H a (ns.map V.int) ∧ ∀ H', Q (.bl true) H'
theorem and_v {c : Bool} {t : TE} {σ : L2.St} {H : Hp} {Q : VK} (e : Bool) (ht : Q (.bl e) H → t σ H Q) (h : ∀ nm, (nm = true → e = true) → Q (.bl nm) H) : if c = true then t σ H Q else Q (.bl false) H := by
  cases c with
  | true => exact iteT (ht (h e id))
  | false => exact iteF (h false (fun z => nomatch z))
theorem flag_snoc (i m : Nat) : (List.range m).map (fun j => V.bl (decide (i = j))) ++ [V.bl (decide (V.int (0 + (m : Int)) = V.int (0 + (i : Int))))] = (List.range (m + 1)).map fun j => V.bl (decide (i = j)) := by
  rw [List.range_succ, List.map_append, List.map_cons, List.map_nil]
  have e : decide (V.int (0 + (m : Int)) = V.int (0 + (i : Int))) = decide (i = m) := by
    rw [Bool.eq_iff_iff, decide_eq_true_iff, decide_eq_true_iff]
    constructor
    · intro z; injection z with z; omega
    · intro z; rw [z]
  rw [e]
def dFlags (i : Nat) : PyData := .list (((List.range 20).map fun j => decide (i = j)).map PyData.bool)
theorem dFlags_ok : ∀ i : Nat, i ≤ 20 → SeqAt.shaped (dFlags i) = true ∧ PyData.eqv (dFlags i) (dFlags i) = true := by decide +kernel
theorem dpBls {K : PySem.W.Frag} {H : Hp} : ∀ bs : List Bool, DpAll K H (bs.map V.bl) (bs.map PyData.bool)
  | [] => .nil
  | b :: bs => .cons (.bl b) (dpBls bs)
section
variable {P : Program} {w : World} {K : PySem.W.Frag} {mg : Str → Option Value} {base : Heap}
theorem ok_law {f : Addr} {fd : FuncData} (B : Bi mg) (F : Fun K "law" "law" s_law f fd)
    (G_bag : Has P w K mg base CX0 "_law_bag" ["_law_script"] 1 (spBag K)) (G_odd : Has P w K mg base CX0 "_law_odd" ["_law_bag_here"] 2 spOdd)
    (G_caught : Has P w K mg base CX0 "_law_caught" ["_law_which", "_law_thing", "_law_named"] 4 spCaught) (G_alike : Has P w K mg base CX0 "_law_alike" ["_law_one", "_law_other"] 4 (spAlike 3)) :
    FnOk P w K mg base CX0 7 f fd ["_law_script"] (spLaw K) := by
  refine F.ok sc_law (fun vs H Q E h => ?_) (fun cdv A outer s H vs Q E hr h => ?_)
  · obtain ⟨a, ns, rfl, _⟩ := h; rfl
  · obtain ⟨a, ns, rfl, hS, k⟩ := h
    have r1 : Room 1 _ := hr.mono (by decide)
    have r2 : Room 2 _ := hr.mono (by decide)
    have r4 : Room 4 _ := hr.mono (by decide)
    refine ⟨_, (pss_cons (ps_set (i := 1) sc_law.nd rfl (by first | exact Or.inl rfl | exact Or.inr rfl) (pe_has G_bag r1 (pa_cons (pv 0) pa_nil)))
  (pss_cons (ps_for PassesOwn.never rfl (pi_range1 rfl B.range (pa_cons pe_int pa_nil)) (pg_name (i := 2) sc_law.nd rfl (by first | exact Or.inl rfl | exact Or.inr rfl))
  (pss_one (ps_for PassesOwn.never rfl (pi_range1 rfl B.range (pa_cons pe_int pa_nil)) (pg_name (i := 3) sc_law.nd rfl (by first | exact Or.inl rfl | exact Or.inr rfl))
  (pss_cons (ps_set (i := 4) sc_law.nd rfl (by first | exact Or.inl rfl | exact Or.inr rfl) (pe_has G_odd r2 (pa_cons (pv 1) pa_nil)))
  (C8.pss_cut (ps_if (pt_cmpR op_gt (pv 2) pe_int (nomark _))
  (pss_one (ps_set (i := 4) sc_law.nd rfl (by first | exact Or.inl rfl | exact Or.inr rfl) pe_non))
  pss_nil)
  (pss_cons (ps_asg (pe_has G_caught r4 (pa_cons (pv 2) (pa_cons (pv 4) (pa_cons (pe_and (pe_cmpR op_eq (pv 3) pe_int (nomark _)) (pe_one (pe_cmpR op_lt (pv 2) pe_int (nomark _)))) pa_nil)))) (pg_tup rfl (pgs_cons (pg_name (i := 5) sc_law.nd rfl (by first | exact Or.inl rfl | exact Or.inr rfl)) (pgs_cons (pg_name (i := 6) sc_law.nd rfl (by first | exact Or.inl rfl | exact Or.inr rfl)) (pgs_cons (pg_name (i := 7) sc_law.nd rfl (by first | exact Or.inl rfl | exact Or.inr rfl)) pgs_nil)))))
  (pss_cons (ps_if (pt_cmpR (op_neD hr.units) (pv 5) (pe_lc (own := [("_law_k", 8)]) (g := gName 8) (by rfl) sc_law.nd (pi_range1 rfl B.range (pa_cons pe_int pa_nil)) (blkOk_by (own := [("_law_k", 8)]) (N := N_law) (sc := defScope s_law) (by decide +kernel)) (fun _ _ _ _ _ => (pg_name (i := 8) sc_law.nd rfl (by first | exact Or.inl rfl | exact Or.inr rfl))) (fun _ _ _ _ _ => pts_nil) (fun _ _ _ _ _ => (pe_cmpR op_eq (pv 8) (pv 2) (nomark _)))) (nomark _))
  (pss_one (ps_ret pe_bl))
  pss_nil)
  (pss_one (ps_if (PW.pt (pw_or (pt_cmpR (op_neD hr.units) (pv 6) (pe_lst (pa_cons pe_bl (pa_cons pe_bl (pa_cons pe_bl (pa_cons pe_bl (pa_cons pe_bl (pa_cons pe_bl pa_nil))))))) (nomark _)) (pw_or1 (pt_not (pt_val (pe_has G_alike r4 (pa_cons (pv 7) (pa_cons (pv 4) pa_nil))))))))
  (pss_one (ps_ret pe_bl))
  pss_nil)))))))))
  (pss_one (ps_ret pe_bl)))), ?_⟩
    refine ⟨_, rfl, a, ns, rfl, hS, fun b c H1 k1 nb nc B1 => ?_⟩
    refine ⟨21, rfl, by decide, by decide, ?_⟩
    refine for_range (lo := 0) (n := (21 : Int).toNat) (fun i σ H' => (∃ v2 v3 v4 v5 v6 v7 : Option V, σ = [some (.ref a), some (.ref b), v2, v3, v4, v5, v6, v7, none]) ∧ Bag H' b c) ⟨⟨none, none, none, none, none, none, rfl⟩, B1⟩ ?_ ?_
    · rintro i σ H2 hi ⟨⟨v2, v3, v4, v5, v6, v7, rfl⟩, B2⟩
      have hi20 : i ≤ 20 := by have : (21 : Int).toNat = 21 := rfl; omega
      refine ⟨2, rfl, by decide, by decide, ?_⟩
      refine for_range (lo := 0) (n := (2 : Int).toNat) (fun j σ H' => (∃ v3 v4 v5 v6 v7 : Option V, σ = [some (.ref a), some (.ref b), some (.int (0 + (i : Int))), v3, v4, v5, v6, v7, none]) ∧ Bag H' b c) ⟨⟨v3, v4, v5, v6, v7, rfl⟩, B2⟩ ?_ ?_
      · rintro j σ H3 hj ⟨⟨v3, v4, v5, v6, v7, rfl⟩, B3⟩
        refine ⟨_, rfl, b, c, rfl, B3, fun v d H4 B4 k4 dv => ?_⟩
        refine ⟨fun σ H' => ∃ v' d', σ = [some (.ref a), some (.ref b), some (.int (0 + (i : Int))), some (.int (0 + (j : Int))), some v', v5, v6, v7, none] ∧ H' = H4 ∧ Dt (fun a => H3 a = none) true H4 3 v' d' ∧ (17 ≤ i → v' = .non), ?_, ?_⟩
        · refine ⟨_, rfl, _, _, rfl, rfl, _, rfl, ?_⟩
          by_cases h17 : 17 ≤ i
          · refine (if_pos (decide_eq_true (by omega))).mpr ?_
            exact ⟨.non, .none, rfl, rfl, .non, fun _ => rfl⟩
          · refine (if_neg (fun y => by have y := of_decide_eq_true y; omega)).mpr ?_
            exact ⟨v, d, rfl, rfl, dv, fun z => absurd z h17⟩
        · rintro _ _ ⟨v, d, rfl, rfl, dv, h17⟩
          refine ⟨_, rfl, _, rfl, _, rfl, rfl, _, rfl, and_v (decide (0 + (i : Int) < 17)) (fun q => ⟨_, rfl, _, _, rfl, rfl, q⟩) (fun nm hnm => ?_)⟩
          refine ⟨i, v, nm, by rw [Int.zero_add]; rfl, hi20, fun z => by have := of_decide_eq_true (hnm z); omega, fun r p o H5 k5 er ep eo => ?_⟩
          refine ⟨r, _, rfl, SqT.of er, rfl, _, _, rfl, _, _, rfl, _, _, rfl, rfl, ?_⟩
          refine ⟨_, rfl, 20, rfl, by decide, by decide, fun D nD => ?_⟩
          have pD : p ≠ D := ne_of_none ep nD
          refine lc_range (lo := 0) (n := (20 : Int).toNat) (fun m H' => H' D = some (.lst (((List.range m).map fun j => V.bl (decide (i = j))))) ∧ Kp [] H5 H') ⟨upd_same, Kp.new nD⟩ ?_ ?_
          · rintro m H6 hm ⟨e6, k6⟩
            refine ⟨rfl, _, rfl, _, rfl, rfl, _, e6, ?_, ?_, ?_⟩
            · have : (20 : Int).toNat = 20 := rfl
              rw [List.length_map, List.length_range]
              exact sz20' (by omega)
            · rw [upd_same, flag_snoc]
            · exact k6.late nD
          · rintro H6 ⟨e6, k6⟩
            have ep6 := k6.at_ _ _ ep (fun z => nomatch z)
            have eo6 := k6.at_ _ _ eo (fun z => nomatch z)
            refine ⟨dFlags i, dFlags i, .lst (SqL.of ep6) (dpBls ((List.range 20).map fun j => decide (i = j))), .lst (SqL.of e6) (dpBls ((List.range 20).map fun j => decide (i = j))), (dFlags_ok i hi20).1, (dFlags_ok i hi20).1, ?_⟩
            rw [(dFlags_ok i hi20).2]
            refine ⟨_, rfl, iteF ?_⟩
            refine ⟨_, rfl, (sz20 (Nat.le_of_ble_eq_true rfl)), fun z nz => ?_⟩
            have k7 : Kp [] H6 (upd H6 z (.lst ((List.replicate 6 false).map V.bl))) := Kp.new nz
            have eo7 := k7.at_ _ _ eo6 (fun z => nomatch z)
            refine ⟨.list ((List.replicate 6 false).map PyData.bool), .list ((List.replicate 6 false).map PyData.bool), .lst (SqL.of eo7) (dpBls (List.replicate 6 false)), .lst (SqL.of upd_same) (dpBls (List.replicate 6 false)), by decide +kernel, by decide +kernel, ?_⟩
            have e6f : PyData.eqv (.list ((List.replicate 6 false).map PyData.bool)) (.list ((List.replicate 6 false).map PyData.bool)) = true := by decide +kernel
            rw [e6f]
            have kv : (if i < 17 then v else .non) = v := by
              split
              · rfl
              · rename_i z; exact (h17 (by omega)).symm
            have d7 := ((dv.keep k5).keep k6).keep k7
            refine ⟨_, rfl, iteF ?_⟩
            refine ⟨_, rfl, _, rfl, _, _, _, v, d, by rw [kv]; rfl, d7, d7.weak, fun H8 k8 => ⟨_, rfl, iteF ?_⟩⟩
            exact ⟨⟨_, _, _, _, _, rfl⟩, (((B4.keep0 k5).keep0 k6).keep0 k7).keep0 k8⟩
      · rintro σ H3 ⟨⟨v3, v4, v5, v6, v7, rfl⟩, B3⟩
        exact ⟨⟨_, _, _, _, _, _, rfl⟩, B3⟩
    · rintro σ H3 _
      exact k H3
end
end Fm

namespace Fm
open PySem PySem.Spec PyProof.Rows L2
def excB (K : PySem.W.Frag) (D : Addr) : Bool :=
  decide (PySem.W.findIn K (.ref D) "__getattribute__" = some (some (.builtin "BaseException.__getattribute__"))) && (decide (PySem.W.findIn K (.ref D) "__getattr__" = some none) && (decide (PySem.W.subIn K (.ref D) (.type "BaseException") = some true) && (PySem.W.hasDictIn K D && (decide (PySem.W.findIn K (.ref D) "__class__" = some (some (.builtin "object.__class__"))) &&
    (decide (PySem.W.specialIn K (.builtin "object.__class__") "__get__" = some (some (.builtin "getset_descriptor.__get__"))) && (decide (PySem.W.takesIn K (.builtin "object.__class__") = some true) && decide (PySem.W.mroIn K D (.type "object") = some true)))))))
theorem excB_ok {K : PySem.W.Frag} {D : Addr} (h : excB K D = true) : ExcC K D := by
  obtain ⟨h1, h⟩ := Bool.and_eq_true_iff.mp h
  obtain ⟨h2, h⟩ := Bool.and_eq_true_iff.mp h
  obtain ⟨h3, h⟩ := Bool.and_eq_true_iff.mp h
  obtain ⟨h4, h⟩ := Bool.and_eq_true_iff.mp h
  obtain ⟨h5, h⟩ := Bool.and_eq_true_iff.mp h
  obtain ⟨h6, h⟩ := Bool.and_eq_true_iff.mp h
  obtain ⟨h7, h8⟩ := Bool.and_eq_true_iff.mp h
  exact ⟨of_decide_eq_true h1, of_decide_eq_true h2, of_decide_eq_true h3, h4, of_decide_eq_true h5, of_decide_eq_true h6, of_decide_eq_true h7, of_decide_eq_true h8⟩
def kitsB (K : PySem.W.Frag) (C : Nat → Addr) : Bool :=
  ((List.range 21).all fun i => excB K (C i) && (((List.range 20).all fun j => decide (PySem.W.kitOne K (.ref (C i)) (.ref (C j)) = some (decide (i = j)))) &&
    ((["KeyError", "IndexError", "TypeError", "ArithmeticError", "RuntimeError"].all fun t => decide (PySem.W.kitOne K (.ref (C i)) (.type t) = some false)) && (decide (PySem.W.kitOne K (.ref (C i)) (.type "ValueError") = some true) && decide (PySem.W.exmOne K (.ref (C i)) (.ref (C 20)) = some true))))) &&
  (List.range 17).all fun i => xfB K (C i) && decide (PySem.W.findIn K (.ref (C i)) (fld i) = some none)
theorem kits_ok {K : PySem.W.Frag} {C : Nat → Addr} (h : kitsB K C = true) : Kits K C := by
  obtain ⟨h1, h2⟩ := Bool.and_eq_true_iff.mp h
  have h1 := List.all_eq_true.mp h1
  have h2 := List.all_eq_true.mp h2
  have g1 := fun i (hi : i ≤ 20) => Bool.and_eq_true_iff.mp (h1 i (List.mem_range.mpr (by omega)))
  have g2 := fun i (hi : i ≤ 20) => Bool.and_eq_true_iff.mp (g1 i hi).2
  have g3 := fun i (hi : i ≤ 20) => Bool.and_eq_true_iff.mp (g2 i hi).2
  have g4 := fun i (hi : i ≤ 20) => Bool.and_eq_true_iff.mp (g3 i hi).2
  exact ⟨fun i hi => excB_ok (g1 i hi).1, fun i j hi hj => of_decide_eq_true (List.all_eq_true.mp (g2 i hi).1 j (List.mem_range.mpr hj)), fun i hi t ht => of_decide_eq_true (List.all_eq_true.mp (g3 i hi).1 t ht),
    fun i hi => of_decide_eq_true (g4 i hi).1, fun i hi => of_decide_eq_true (g4 i hi).2, fun i hi => ⟨xfB_ok (Bool.and_eq_true_iff.mp (h2 i (List.mem_range.mpr hi))).1, of_decide_eq_true (Bool.and_eq_true_iff.mp (h2 i (List.mem_range.mpr hi))).2⟩⟩
end Fm

namespace Fm
open PySem PySem.Spec PyProof.Rows L2
theorem ok_BadShape_init {P : Program} {w : World} {K : PySem.W.Frag} {mg : Str → Option Value} {base : Heap} {f C : Addr} {fd : FuncData} (F : Fun K "__init__" "BadShape.__init__" s_BadShape_init f fd) (ox : OexC K C) (no : PySem.W.findIn K (.ref C) "at" = some none) : FnOk P w K mg base CX0 1 f fd ["self", "at"] (spErr C "at") := by
  refine F.ok sc_BadShape_init (fun vs H Q E h => ?_) (fun cdv A outer s H vs Q E hr h => ⟨_, pss_one (ps_ost (pv 0) (pv 1)), ?_⟩)
  · obtain ⟨a, y, rfl, _⟩ := h; rfl
  · obtain ⟨a, y, rfl, ha, k⟩ := h
    exact ⟨_, rfl, _, rfl, a, C, rfl, ox, no, .inl ⟨ha, fun dx h1 h2 => k dx h1 h2⟩⟩
theorem ok_BadName_init {P : Program} {w : World} {K : PySem.W.Frag} {mg : Str → Option Value} {base : Heap} {f C : Addr} {fd : FuncData} (F : Fun K "__init__" "BadName.__init__" s_BadName_init f fd) (ox : OexC K C) (no : PySem.W.findIn K (.ref C) "value" = some none) : FnOk P w K mg base CX0 1 f fd ["self", "value"] (spErr C "value") := by
  refine F.ok sc_BadName_init (fun vs H Q E h => ?_) (fun cdv A outer s H vs Q E hr h => ⟨_, pss_one (ps_ost (pv 0) (pv 1)), ?_⟩)
  · obtain ⟨a, y, rfl, _⟩ := h; rfl
  · obtain ⟨a, y, rfl, ha, k⟩ := h
    exact ⟨_, rfl, _, rfl, a, C, rfl, ox, no, .inl ⟨ha, fun dx h1 h2 => k dx h1 h2⟩⟩
theorem ok_BadStore_init {P : Program} {w : World} {K : PySem.W.Frag} {mg : Str → Option Value} {base : Heap} {f C : Addr} {fd : FuncData} (F : Fun K "__init__" "BadStore.__init__" s_BadStore_init f fd) (ox : OexC K C) (no : PySem.W.findIn K (.ref C) "value" = some none) : FnOk P w K mg base CX0 1 f fd ["self", "value"] (spErr C "value") := by
  refine F.ok sc_BadStore_init (fun vs H Q E h => ?_) (fun cdv A outer s H vs Q E hr h => ⟨_, pss_one (ps_ost (pv 0) (pv 1)), ?_⟩)
  · obtain ⟨a, y, rfl, _⟩ := h; rfl
  · obtain ⟨a, y, rfl, ha, k⟩ := h
    exact ⟨_, rfl, _, rfl, a, C, rfl, ox, no, .inl ⟨ha, fun dx h1 h2 => k dx h1 h2⟩⟩
theorem ok_BadRows_init {P : Program} {w : World} {K : PySem.W.Frag} {mg : Str → Option Value} {base : Heap} {f C : Addr} {fd : FuncData} (F : Fun K "__init__" "BadRows.__init__" s_BadRows_init f fd) (ox : OexC K C) (no : PySem.W.findIn K (.ref C) "value" = some none) : FnOk P w K mg base CX0 1 f fd ["self", "value"] (spErr C "value") := by
  refine F.ok sc_BadRows_init (fun vs H Q E h => ?_) (fun cdv A outer s H vs Q E hr h => ⟨_, pss_one (ps_ost (pv 0) (pv 1)), ?_⟩)
  · obtain ⟨a, y, rfl, _⟩ := h; rfl
  · obtain ⟨a, y, rfl, ha, k⟩ := h
    exact ⟨_, rfl, _, rfl, a, C, rfl, ox, no, .inl ⟨ha, fun dx h1 h2 => k dx h1 h2⟩⟩
theorem ok_BadIndex_init {P : Program} {w : World} {K : PySem.W.Frag} {mg : Str → Option Value} {base : Heap} {f C : Addr} {fd : FuncData} (F : Fun K "__init__" "BadIndex.__init__" s_BadIndex_init f fd) (ox : OexC K C) (no : PySem.W.findIn K (.ref C) "value" = some none) : FnOk P w K mg base CX0 1 f fd ["self", "value"] (spErr C "value") := by
  refine F.ok sc_BadIndex_init (fun vs H Q E h => ?_) (fun cdv A outer s H vs Q E hr h => ⟨_, pss_one (ps_ost (pv 0) (pv 1)), ?_⟩)
  · obtain ⟨a, y, rfl, _⟩ := h; rfl
  · obtain ⟨a, y, rfl, ha, k⟩ := h
    exact ⟨_, rfl, _, rfl, a, C, rfl, ox, no, .inl ⟨ha, fun dx h1 h2 => k dx h1 h2⟩⟩
theorem ok_BadBlock_init {P : Program} {w : World} {K : PySem.W.Frag} {mg : Str → Option Value} {base : Heap} {f C : Addr} {fd : FuncData} (F : Fun K "__init__" "BadBlock.__init__" s_BadBlock_init f fd) (ox : OexC K C) (no : PySem.W.findIn K (.ref C) "at" = some none) : FnOk P w K mg base CX0 1 f fd ["self", "at"] (spErr C "at") := by
  refine F.ok sc_BadBlock_init (fun vs H Q E h => ?_) (fun cdv A outer s H vs Q E hr h => ⟨_, pss_one (ps_ost (pv 0) (pv 1)), ?_⟩)
  · obtain ⟨a, y, rfl, _⟩ := h; rfl
  · obtain ⟨a, y, rfl, ha, k⟩ := h
    exact ⟨_, rfl, _, rfl, a, C, rfl, ox, no, .inl ⟨ha, fun dx h1 h2 => k dx h1 h2⟩⟩
theorem ok_BadProgram_init {P : Program} {w : World} {K : PySem.W.Frag} {mg : Str → Option Value} {base : Heap} {f C : Addr} {fd : FuncData} (F : Fun K "__init__" "BadProgram.__init__" s_BadProgram_init f fd) (ox : OexC K C) (no : PySem.W.findIn K (.ref C) "value" = some none) : FnOk P w K mg base CX0 1 f fd ["self", "value"] (spErr C "value") := by
  refine F.ok sc_BadProgram_init (fun vs H Q E h => ?_) (fun cdv A outer s H vs Q E hr h => ⟨_, pss_one (ps_ost (pv 0) (pv 1)), ?_⟩)
  · obtain ⟨a, y, rfl, _⟩ := h; rfl
  · obtain ⟨a, y, rfl, ha, k⟩ := h
    exact ⟨_, rfl, _, rfl, a, C, rfl, ox, no, .inl ⟨ha, fun dx h1 h2 => k dx h1 h2⟩⟩
theorem ok_BadPattern_init {P : Program} {w : World} {K : PySem.W.Frag} {mg : Str → Option Value} {base : Heap} {f C : Addr} {fd : FuncData} (F : Fun K "__init__" "BadPattern.__init__" s_BadPattern_init f fd) (ox : OexC K C) (no : PySem.W.findIn K (.ref C) "at" = some none) : FnOk P w K mg base CX0 1 f fd ["self", "at"] (spErr C "at") := by
  refine F.ok sc_BadPattern_init (fun vs H Q E h => ?_) (fun cdv A outer s H vs Q E hr h => ⟨_, pss_one (ps_ost (pv 0) (pv 1)), ?_⟩)
  · obtain ⟨a, y, rfl, _⟩ := h; rfl
  · obtain ⟨a, y, rfl, ha, k⟩ := h
    exact ⟨_, rfl, _, rfl, a, C, rfl, ox, no, .inl ⟨ha, fun dx h1 h2 => k dx h1 h2⟩⟩
theorem ok_BadPair_init {P : Program} {w : World} {K : PySem.W.Frag} {mg : Str → Option Value} {base : Heap} {f C : Addr} {fd : FuncData} (F : Fun K "__init__" "BadPair.__init__" s_BadPair_init f fd) (ox : OexC K C) (no : PySem.W.findIn K (.ref C) "value" = some none) : FnOk P w K mg base CX0 1 f fd ["self", "value"] (spErr C "value") := by
  refine F.ok sc_BadPair_init (fun vs H Q E h => ?_) (fun cdv A outer s H vs Q E hr h => ⟨_, pss_one (ps_ost (pv 0) (pv 1)), ?_⟩)
  · obtain ⟨a, y, rfl, _⟩ := h; rfl
  · obtain ⟨a, y, rfl, ha, k⟩ := h
    exact ⟨_, rfl, _, rfl, a, C, rfl, ox, no, .inl ⟨ha, fun dx h1 h2 => k dx h1 h2⟩⟩
theorem ok_BadMove_init {P : Program} {w : World} {K : PySem.W.Frag} {mg : Str → Option Value} {base : Heap} {f C : Addr} {fd : FuncData} (F : Fun K "__init__" "BadMove.__init__" s_BadMove_init f fd) (ox : OexC K C) (no : PySem.W.findIn K (.ref C) "value" = some none) : FnOk P w K mg base CX0 1 f fd ["self", "value"] (spErr C "value") := by
  refine F.ok sc_BadMove_init (fun vs H Q E h => ?_) (fun cdv A outer s H vs Q E hr h => ⟨_, pss_one (ps_ost (pv 0) (pv 1)), ?_⟩)
  · obtain ⟨a, y, rfl, _⟩ := h; rfl
  · obtain ⟨a, y, rfl, ha, k⟩ := h
    exact ⟨_, rfl, _, rfl, a, C, rfl, ox, no, .inl ⟨ha, fun dx h1 h2 => k dx h1 h2⟩⟩
theorem ok_BadAsk_init {P : Program} {w : World} {K : PySem.W.Frag} {mg : Str → Option Value} {base : Heap} {f C : Addr} {fd : FuncData} (F : Fun K "__init__" "BadAsk.__init__" s_BadAsk_init f fd) (ox : OexC K C) (no : PySem.W.findIn K (.ref C) "at" = some none) : FnOk P w K mg base CX0 1 f fd ["self", "at"] (spErr C "at") := by
  refine F.ok sc_BadAsk_init (fun vs H Q E h => ?_) (fun cdv A outer s H vs Q E hr h => ⟨_, pss_one (ps_ost (pv 0) (pv 1)), ?_⟩)
  · obtain ⟨a, y, rfl, _⟩ := h; rfl
  · obtain ⟨a, y, rfl, ha, k⟩ := h
    exact ⟨_, rfl, _, rfl, a, C, rfl, ox, no, .inl ⟨ha, fun dx h1 h2 => k dx h1 h2⟩⟩
theorem ok_BadAsks_init {P : Program} {w : World} {K : PySem.W.Frag} {mg : Str → Option Value} {base : Heap} {f C : Addr} {fd : FuncData} (F : Fun K "__init__" "BadAsks.__init__" s_BadAsks_init f fd) (ox : OexC K C) (no : PySem.W.findIn K (.ref C) "value" = some none) : FnOk P w K mg base CX0 1 f fd ["self", "value"] (spErr C "value") := by
  refine F.ok sc_BadAsks_init (fun vs H Q E h => ?_) (fun cdv A outer s H vs Q E hr h => ⟨_, pss_one (ps_ost (pv 0) (pv 1)), ?_⟩)
  · obtain ⟨a, y, rfl, _⟩ := h; rfl
  · obtain ⟨a, y, rfl, ha, k⟩ := h
    exact ⟨_, rfl, _, rfl, a, C, rfl, ox, no, .inl ⟨ha, fun dx h1 h2 => k dx h1 h2⟩⟩
theorem ok_BadPlan_init {P : Program} {w : World} {K : PySem.W.Frag} {mg : Str → Option Value} {base : Heap} {f C : Addr} {fd : FuncData} (F : Fun K "__init__" "BadPlan.__init__" s_BadPlan_init f fd) (ox : OexC K C) (no : PySem.W.findIn K (.ref C) "value" = some none) : FnOk P w K mg base CX0 1 f fd ["self", "value"] (spErr C "value") := by
  refine F.ok sc_BadPlan_init (fun vs H Q E h => ?_) (fun cdv A outer s H vs Q E hr h => ⟨_, pss_one (ps_ost (pv 0) (pv 1)), ?_⟩)
  · obtain ⟨a, y, rfl, _⟩ := h; rfl
  · obtain ⟨a, y, rfl, ha, k⟩ := h
    exact ⟨_, rfl, _, rfl, a, C, rfl, ox, no, .inl ⟨ha, fun dx h1 h2 => k dx h1 h2⟩⟩
theorem ok_BadCount_init {P : Program} {w : World} {K : PySem.W.Frag} {mg : Str → Option Value} {base : Heap} {f C : Addr} {fd : FuncData} (F : Fun K "__init__" "BadCount.__init__" s_BadCount_init f fd) (ox : OexC K C) (no : PySem.W.findIn K (.ref C) "value" = some none) : FnOk P w K mg base CX0 1 f fd ["self", "value"] (spErr C "value") := by
  refine F.ok sc_BadCount_init (fun vs H Q E h => ?_) (fun cdv A outer s H vs Q E hr h => ⟨_, pss_one (ps_ost (pv 0) (pv 1)), ?_⟩)
  · obtain ⟨a, y, rfl, _⟩ := h; rfl
  · obtain ⟨a, y, rfl, ha, k⟩ := h
    exact ⟨_, rfl, _, rfl, a, C, rfl, ox, no, .inl ⟨ha, fun dx h1 h2 => k dx h1 h2⟩⟩
theorem ok_BadText_init {P : Program} {w : World} {K : PySem.W.Frag} {mg : Str → Option Value} {base : Heap} {f C : Addr} {fd : FuncData} (F : Fun K "__init__" "BadText.__init__" s_BadText_init f fd) (ox : OexC K C) (no : PySem.W.findIn K (.ref C) "at" = some none) : FnOk P w K mg base CX0 1 f fd ["self", "at"] (spErr C "at") := by
  refine F.ok sc_BadText_init (fun vs H Q E h => ?_) (fun cdv A outer s H vs Q E hr h => ⟨_, pss_one (ps_ost (pv 0) (pv 1)), ?_⟩)
  · obtain ⟨a, y, rfl, _⟩ := h; rfl
  · obtain ⟨a, y, rfl, ha, k⟩ := h
    exact ⟨_, rfl, _, rfl, a, C, rfl, ox, no, .inl ⟨ha, fun dx h1 h2 => k dx h1 h2⟩⟩
theorem ok_NotPlain_init {P : Program} {w : World} {K : PySem.W.Frag} {mg : Str → Option Value} {base : Heap} {f C : Addr} {fd : FuncData} (F : Fun K "__init__" "NotPlain.__init__" s_NotPlain_init f fd) (ox : OexC K C) (no : PySem.W.findIn K (.ref C) "at" = some none) : FnOk P w K mg base CX0 1 f fd ["self", "at"] (spErr C "at") := by
  refine F.ok sc_NotPlain_init (fun vs H Q E h => ?_) (fun cdv A outer s H vs Q E hr h => ⟨_, pss_one (ps_ost (pv 0) (pv 1)), ?_⟩)
  · obtain ⟨a, y, rfl, _⟩ := h; rfl
  · obtain ⟨a, y, rfl, ha, k⟩ := h
    exact ⟨_, rfl, _, rfl, a, C, rfl, ox, no, .inl ⟨ha, fun dx h1 h2 => k dx h1 h2⟩⟩
theorem ok_Unlike_init {P : Program} {w : World} {K : PySem.W.Frag} {mg : Str → Option Value} {base : Heap} {f C : Addr} {fd : FuncData} (F : Fun K "__init__" "Unlike.__init__" s_Unlike_init f fd) (ox : OexC K C) (no : PySem.W.findIn K (.ref C) "value" = some none) : FnOk P w K mg base CX0 1 f fd ["self", "value"] (spErr C "value") := by
  refine F.ok sc_Unlike_init (fun vs H Q E h => ?_) (fun cdv A outer s H vs Q E hr h => ⟨_, pss_one (ps_ost (pv 0) (pv 1)), ?_⟩)
  · obtain ⟨a, y, rfl, _⟩ := h; rfl
  · obtain ⟨a, y, rfl, ha, k⟩ := h
    exact ⟨_, rfl, _, rfl, a, C, rfl, ox, no, .inl ⟨ha, fun dx h1 h2 => k dx h1 h2⟩⟩
theorem all_mk {l : PySem.W.OpenLaw} {w : World} {K : PySem.W.Frag} {h : Heap} {mg : Str → Option Value} {fa : Addr} (X : K.In h) (G : h.Ns mainGlobals mg) (hfa : mg "law" = some (.ref fa))
    {f_law_bag : Addr} {od_law_bag an_law_bag : Option Addr} {sl_law_bag : Array (Option Value)} {oc_law_bag kV_law_bag dc_law_bag pm_law_bag cd_law_bag ct_law_bag : Value}
    {f_law_pick : Addr} {od_law_pick an_law_pick : Option Addr} {sl_law_pick : Array (Option Value)} {oc_law_pick kV_law_pick dc_law_pick pm_law_pick cd_law_pick ct_law_pick : Value}
    {f_law_alike : Addr} {od_law_alike an_law_alike : Option Addr} {sl_law_alike : Array (Option Value)} {oc_law_alike kV_law_alike dc_law_alike pm_law_alike cd_law_alike ct_law_alike : Value}
    {f_law_odd : Addr} {od_law_odd an_law_odd : Option Addr} {sl_law_odd : Array (Option Value)} {oc_law_odd kV_law_odd dc_law_odd pm_law_odd cd_law_odd ct_law_odd : Value}
    {f_law_raise : Addr} {od_law_raise an_law_raise : Option Addr} {sl_law_raise : Array (Option Value)} {oc_law_raise kV_law_raise dc_law_raise pm_law_raise cd_law_raise ct_law_raise : Value}
    {f_law_raise_named : Addr} {od_law_raise_named an_law_raise_named : Option Addr} {sl_law_raise_named : Array (Option Value)} {oc_law_raise_named kV_law_raise_named dc_law_raise_named pm_law_raise_named cd_law_raise_named ct_law_raise_named : Value}
    {f_law_caught : Addr} {od_law_caught an_law_caught : Option Addr} {sl_law_caught : Array (Option Value)} {oc_law_caught kV_law_caught dc_law_caught pm_law_caught cd_law_caught ct_law_caught : Value}
    {C_MetError : Addr}
    {C_BadShape : Addr} {nm_BadShape q_BadShape : Str} {N_BadShape : Addr} {bs_BadShape : List Value} {sn_BadShape : List Str} {sub_BadShape : List Value} {ab_BadShape : Bool} {col_BadShape : Option Bool} {dd_BadShape : Option Addr} {m0_BadShape m1_BadShape m2_BadShape m3_BadShape m5_BadShape : Option Value}
    {f_BadShape_init : Addr} {od_BadShape_init an_BadShape_init : Option Addr} {sl_BadShape_init : Array (Option Value)} {oc_BadShape_init kV_BadShape_init dc_BadShape_init pm_BadShape_init cd_BadShape_init ct_BadShape_init : Value}
    {C_BadName : Addr} {nm_BadName q_BadName : Str} {N_BadName : Addr} {bs_BadName : List Value} {sn_BadName : List Str} {sub_BadName : List Value} {ab_BadName : Bool} {col_BadName : Option Bool} {dd_BadName : Option Addr} {m0_BadName m1_BadName m2_BadName m3_BadName m5_BadName : Option Value}
    {f_BadName_init : Addr} {od_BadName_init an_BadName_init : Option Addr} {sl_BadName_init : Array (Option Value)} {oc_BadName_init kV_BadName_init dc_BadName_init pm_BadName_init cd_BadName_init ct_BadName_init : Value}
    {C_BadStore : Addr} {nm_BadStore q_BadStore : Str} {N_BadStore : Addr} {bs_BadStore : List Value} {sn_BadStore : List Str} {sub_BadStore : List Value} {ab_BadStore : Bool} {col_BadStore : Option Bool} {dd_BadStore : Option Addr} {m0_BadStore m1_BadStore m2_BadStore m3_BadStore m5_BadStore : Option Value}
    {f_BadStore_init : Addr} {od_BadStore_init an_BadStore_init : Option Addr} {sl_BadStore_init : Array (Option Value)} {oc_BadStore_init kV_BadStore_init dc_BadStore_init pm_BadStore_init cd_BadStore_init ct_BadStore_init : Value}
    {C_BadRows : Addr} {nm_BadRows q_BadRows : Str} {N_BadRows : Addr} {bs_BadRows : List Value} {sn_BadRows : List Str} {sub_BadRows : List Value} {ab_BadRows : Bool} {col_BadRows : Option Bool} {dd_BadRows : Option Addr} {m0_BadRows m1_BadRows m2_BadRows m3_BadRows m5_BadRows : Option Value}
    {f_BadRows_init : Addr} {od_BadRows_init an_BadRows_init : Option Addr} {sl_BadRows_init : Array (Option Value)} {oc_BadRows_init kV_BadRows_init dc_BadRows_init pm_BadRows_init cd_BadRows_init ct_BadRows_init : Value}
    {C_BadIndex : Addr} {nm_BadIndex q_BadIndex : Str} {N_BadIndex : Addr} {bs_BadIndex : List Value} {sn_BadIndex : List Str} {sub_BadIndex : List Value} {ab_BadIndex : Bool} {col_BadIndex : Option Bool} {dd_BadIndex : Option Addr} {m0_BadIndex m1_BadIndex m2_BadIndex m3_BadIndex m5_BadIndex : Option Value}
    {f_BadIndex_init : Addr} {od_BadIndex_init an_BadIndex_init : Option Addr} {sl_BadIndex_init : Array (Option Value)} {oc_BadIndex_init kV_BadIndex_init dc_BadIndex_init pm_BadIndex_init cd_BadIndex_init ct_BadIndex_init : Value}
    {C_BadBlock : Addr} {nm_BadBlock q_BadBlock : Str} {N_BadBlock : Addr} {bs_BadBlock : List Value} {sn_BadBlock : List Str} {sub_BadBlock : List Value} {ab_BadBlock : Bool} {col_BadBlock : Option Bool} {dd_BadBlock : Option Addr} {m0_BadBlock m1_BadBlock m2_BadBlock m3_BadBlock m5_BadBlock : Option Value}
    {f_BadBlock_init : Addr} {od_BadBlock_init an_BadBlock_init : Option Addr} {sl_BadBlock_init : Array (Option Value)} {oc_BadBlock_init kV_BadBlock_init dc_BadBlock_init pm_BadBlock_init cd_BadBlock_init ct_BadBlock_init : Value}
    {C_BadProgram : Addr} {nm_BadProgram q_BadProgram : Str} {N_BadProgram : Addr} {bs_BadProgram : List Value} {sn_BadProgram : List Str} {sub_BadProgram : List Value} {ab_BadProgram : Bool} {col_BadProgram : Option Bool} {dd_BadProgram : Option Addr} {m0_BadProgram m1_BadProgram m2_BadProgram m3_BadProgram m5_BadProgram : Option Value}
    {f_BadProgram_init : Addr} {od_BadProgram_init an_BadProgram_init : Option Addr} {sl_BadProgram_init : Array (Option Value)} {oc_BadProgram_init kV_BadProgram_init dc_BadProgram_init pm_BadProgram_init cd_BadProgram_init ct_BadProgram_init : Value}
    {C_BadPattern : Addr} {nm_BadPattern q_BadPattern : Str} {N_BadPattern : Addr} {bs_BadPattern : List Value} {sn_BadPattern : List Str} {sub_BadPattern : List Value} {ab_BadPattern : Bool} {col_BadPattern : Option Bool} {dd_BadPattern : Option Addr} {m0_BadPattern m1_BadPattern m2_BadPattern m3_BadPattern m5_BadPattern : Option Value}
    {f_BadPattern_init : Addr} {od_BadPattern_init an_BadPattern_init : Option Addr} {sl_BadPattern_init : Array (Option Value)} {oc_BadPattern_init kV_BadPattern_init dc_BadPattern_init pm_BadPattern_init cd_BadPattern_init ct_BadPattern_init : Value}
    {C_BadPair : Addr} {nm_BadPair q_BadPair : Str} {N_BadPair : Addr} {bs_BadPair : List Value} {sn_BadPair : List Str} {sub_BadPair : List Value} {ab_BadPair : Bool} {col_BadPair : Option Bool} {dd_BadPair : Option Addr} {m0_BadPair m1_BadPair m2_BadPair m3_BadPair m5_BadPair : Option Value}
    {f_BadPair_init : Addr} {od_BadPair_init an_BadPair_init : Option Addr} {sl_BadPair_init : Array (Option Value)} {oc_BadPair_init kV_BadPair_init dc_BadPair_init pm_BadPair_init cd_BadPair_init ct_BadPair_init : Value}
    {C_BadMove : Addr} {nm_BadMove q_BadMove : Str} {N_BadMove : Addr} {bs_BadMove : List Value} {sn_BadMove : List Str} {sub_BadMove : List Value} {ab_BadMove : Bool} {col_BadMove : Option Bool} {dd_BadMove : Option Addr} {m0_BadMove m1_BadMove m2_BadMove m3_BadMove m5_BadMove : Option Value}
    {f_BadMove_init : Addr} {od_BadMove_init an_BadMove_init : Option Addr} {sl_BadMove_init : Array (Option Value)} {oc_BadMove_init kV_BadMove_init dc_BadMove_init pm_BadMove_init cd_BadMove_init ct_BadMove_init : Value}
    {C_BadAsk : Addr} {nm_BadAsk q_BadAsk : Str} {N_BadAsk : Addr} {bs_BadAsk : List Value} {sn_BadAsk : List Str} {sub_BadAsk : List Value} {ab_BadAsk : Bool} {col_BadAsk : Option Bool} {dd_BadAsk : Option Addr} {m0_BadAsk m1_BadAsk m2_BadAsk m3_BadAsk m5_BadAsk : Option Value}
    {f_BadAsk_init : Addr} {od_BadAsk_init an_BadAsk_init : Option Addr} {sl_BadAsk_init : Array (Option Value)} {oc_BadAsk_init kV_BadAsk_init dc_BadAsk_init pm_BadAsk_init cd_BadAsk_init ct_BadAsk_init : Value}
    {C_BadAsks : Addr} {nm_BadAsks q_BadAsks : Str} {N_BadAsks : Addr} {bs_BadAsks : List Value} {sn_BadAsks : List Str} {sub_BadAsks : List Value} {ab_BadAsks : Bool} {col_BadAsks : Option Bool} {dd_BadAsks : Option Addr} {m0_BadAsks m1_BadAsks m2_BadAsks m3_BadAsks m5_BadAsks : Option Value}
    {f_BadAsks_init : Addr} {od_BadAsks_init an_BadAsks_init : Option Addr} {sl_BadAsks_init : Array (Option Value)} {oc_BadAsks_init kV_BadAsks_init dc_BadAsks_init pm_BadAsks_init cd_BadAsks_init ct_BadAsks_init : Value}
    {C_BadPlan : Addr} {nm_BadPlan q_BadPlan : Str} {N_BadPlan : Addr} {bs_BadPlan : List Value} {sn_BadPlan : List Str} {sub_BadPlan : List Value} {ab_BadPlan : Bool} {col_BadPlan : Option Bool} {dd_BadPlan : Option Addr} {m0_BadPlan m1_BadPlan m2_BadPlan m3_BadPlan m5_BadPlan : Option Value}
    {f_BadPlan_init : Addr} {od_BadPlan_init an_BadPlan_init : Option Addr} {sl_BadPlan_init : Array (Option Value)} {oc_BadPlan_init kV_BadPlan_init dc_BadPlan_init pm_BadPlan_init cd_BadPlan_init ct_BadPlan_init : Value}
    {C_BadCount : Addr} {nm_BadCount q_BadCount : Str} {N_BadCount : Addr} {bs_BadCount : List Value} {sn_BadCount : List Str} {sub_BadCount : List Value} {ab_BadCount : Bool} {col_BadCount : Option Bool} {dd_BadCount : Option Addr} {m0_BadCount m1_BadCount m2_BadCount m3_BadCount m5_BadCount : Option Value}
    {f_BadCount_init : Addr} {od_BadCount_init an_BadCount_init : Option Addr} {sl_BadCount_init : Array (Option Value)} {oc_BadCount_init kV_BadCount_init dc_BadCount_init pm_BadCount_init cd_BadCount_init ct_BadCount_init : Value}
    {C_BadText : Addr} {nm_BadText q_BadText : Str} {N_BadText : Addr} {bs_BadText : List Value} {sn_BadText : List Str} {sub_BadText : List Value} {ab_BadText : Bool} {col_BadText : Option Bool} {dd_BadText : Option Addr} {m0_BadText m1_BadText m2_BadText m3_BadText m5_BadText : Option Value}
    {f_BadText_init : Addr} {od_BadText_init an_BadText_init : Option Addr} {sl_BadText_init : Array (Option Value)} {oc_BadText_init kV_BadText_init dc_BadText_init pm_BadText_init cd_BadText_init ct_BadText_init : Value}
    {C_NotPlain : Addr} {nm_NotPlain q_NotPlain : Str} {N_NotPlain : Addr} {bs_NotPlain : List Value} {sn_NotPlain : List Str} {sub_NotPlain : List Value} {ab_NotPlain : Bool} {col_NotPlain : Option Bool} {dd_NotPlain : Option Addr} {m0_NotPlain m1_NotPlain m2_NotPlain m3_NotPlain m5_NotPlain : Option Value}
    {f_NotPlain_init : Addr} {od_NotPlain_init an_NotPlain_init : Option Addr} {sl_NotPlain_init : Array (Option Value)} {oc_NotPlain_init kV_NotPlain_init dc_NotPlain_init pm_NotPlain_init cd_NotPlain_init ct_NotPlain_init : Value}
    {C_Unlike : Addr} {nm_Unlike q_Unlike : Str} {N_Unlike : Addr} {bs_Unlike : List Value} {sn_Unlike : List Str} {sub_Unlike : List Value} {ab_Unlike : Bool} {col_Unlike : Option Bool} {dd_Unlike : Option Addr} {m0_Unlike m1_Unlike m2_Unlike m3_Unlike m5_Unlike : Option Value}
    {f_Unlike_init : Addr} {od_Unlike_init an_Unlike_init : Option Addr} {sl_Unlike_init : Array (Option Value)} {oc_Unlike_init kV_Unlike_init dc_Unlike_init pm_Unlike_init cd_Unlike_init ct_Unlike_init : Value}
    {C_NothingDone : Addr}
    {C_TooMany : Addr}
    {C_TooLong : Addr}
    {f_law : Addr} {od_law an_law : Option Addr} {sl_law : Array (Option Value)} {oc_law kV_law dc_law pm_law cd_law ct_law : Value}
    (z_len : PySem.W.nsIn K mainGlobals "len" = some none)
    (z_list : PySem.W.nsIn K mainGlobals "list" = some none)
    (z_tuple : PySem.W.nsIn K mainGlobals "tuple" = some none)
    (z_isinstance : PySem.W.nsIn K mainGlobals "isinstance" = some none)
    (z_int : PySem.W.nsIn K mainGlobals "int" = some none)
    (z_range : PySem.W.nsIn K mainGlobals "range" = some none)
    (z_max : PySem.W.nsIn K mainGlobals "max" = some none)
    (z_all : PySem.W.nsIn K mainGlobals "all" = some none)
    (z_bool : PySem.W.nsIn K mainGlobals "bool" = some none)
    (z_dict : PySem.W.nsIn K mainGlobals "dict" = some none)
    (z_str : PySem.W.nsIn K mainGlobals "str" = some none)
    (z_enumerate : PySem.W.nsIn K mainGlobals "enumerate" = some none)
    (z_KeyError : PySem.W.nsIn K mainGlobals "KeyError" = some none)
    (z_IndexError : PySem.W.nsIn K mainGlobals "IndexError" = some none)
    (z_TypeError : PySem.W.nsIn K mainGlobals "TypeError" = some none)
    (z_ArithmeticError : PySem.W.nsIn K mainGlobals "ArithmeticError" = some none)
    (z_RuntimeError : PySem.W.nsIn K mainGlobals "RuntimeError" = some none)
    (z_ValueError : PySem.W.nsIn K mainGlobals "ValueError" = some none)
    (a_law_bag : PySem.W.nsIn K mainGlobals "_law_bag" = some (some (.ref f_law_bag)))
    (l_law_bag : K.lookup f_law_bag = some ⟨oc_law_bag, od_law_bag, .func (PySem.W.fnOf "_law_bag" "_law_bag" (defArgs s__law_bag) (defBody s__law_bag) (defScope s__law_bag) .none kV_law_bag dc_law_bag pm_law_bag an_law_bag cd_law_bag ct_law_bag), sl_law_bag⟩)
    (c_law_bag : PySem.W.codeIn K cd_law_bag "_law_bag" = true)
    (k_law_bag : PySem.W.keepIn K (.ref f_law_bag) = true)
    (a_law_pick : PySem.W.nsIn K mainGlobals "_law_pick" = some (some (.ref f_law_pick)))
    (l_law_pick : K.lookup f_law_pick = some ⟨oc_law_pick, od_law_pick, .func (PySem.W.fnOf "_law_pick" "_law_pick" (defArgs s__law_pick) (defBody s__law_pick) (defScope s__law_pick) .none kV_law_pick dc_law_pick pm_law_pick an_law_pick cd_law_pick ct_law_pick), sl_law_pick⟩)
    (c_law_pick : PySem.W.codeIn K cd_law_pick "_law_pick" = true)
    (k_law_pick : PySem.W.keepIn K (.ref f_law_pick) = true)
    (a_law_alike : PySem.W.nsIn K mainGlobals "_law_alike" = some (some (.ref f_law_alike)))
    (l_law_alike : K.lookup f_law_alike = some ⟨oc_law_alike, od_law_alike, .func (PySem.W.fnOf "_law_alike" "_law_alike" (defArgs s__law_alike) (defBody s__law_alike) (defScope s__law_alike) .none kV_law_alike dc_law_alike pm_law_alike an_law_alike cd_law_alike ct_law_alike), sl_law_alike⟩)
    (c_law_alike : PySem.W.codeIn K cd_law_alike "_law_alike" = true)
    (k_law_alike : PySem.W.keepIn K (.ref f_law_alike) = true)
    (a_law_odd : PySem.W.nsIn K mainGlobals "_law_odd" = some (some (.ref f_law_odd)))
    (l_law_odd : K.lookup f_law_odd = some ⟨oc_law_odd, od_law_odd, .func (PySem.W.fnOf "_law_odd" "_law_odd" (defArgs s__law_odd) (defBody s__law_odd) (defScope s__law_odd) .none kV_law_odd dc_law_odd pm_law_odd an_law_odd cd_law_odd ct_law_odd), sl_law_odd⟩)
    (c_law_odd : PySem.W.codeIn K cd_law_odd "_law_odd" = true)
    (k_law_odd : PySem.W.keepIn K (.ref f_law_odd) = true)
    (a_law_raise : PySem.W.nsIn K mainGlobals "_law_raise" = some (some (.ref f_law_raise)))
    (l_law_raise : K.lookup f_law_raise = some ⟨oc_law_raise, od_law_raise, .func (PySem.W.fnOf "_law_raise" "_law_raise" (defArgs s__law_raise) (defBody s__law_raise) (defScope s__law_raise) .none kV_law_raise dc_law_raise pm_law_raise an_law_raise cd_law_raise ct_law_raise), sl_law_raise⟩)
    (c_law_raise : PySem.W.codeIn K cd_law_raise "_law_raise" = true)
    (k_law_raise : PySem.W.keepIn K (.ref f_law_raise) = true)
    (a_law_raise_named : PySem.W.nsIn K mainGlobals "_law_raise_named" = some (some (.ref f_law_raise_named)))
    (l_law_raise_named : K.lookup f_law_raise_named = some ⟨oc_law_raise_named, od_law_raise_named, .func (PySem.W.fnOf "_law_raise_named" "_law_raise_named" (defArgs s__law_raise_named) (defBody s__law_raise_named) (defScope s__law_raise_named) .none kV_law_raise_named dc_law_raise_named pm_law_raise_named an_law_raise_named cd_law_raise_named ct_law_raise_named), sl_law_raise_named⟩)
    (c_law_raise_named : PySem.W.codeIn K cd_law_raise_named "_law_raise_named" = true)
    (k_law_raise_named : PySem.W.keepIn K (.ref f_law_raise_named) = true)
    (a_law_caught : PySem.W.nsIn K mainGlobals "_law_caught" = some (some (.ref f_law_caught)))
    (l_law_caught : K.lookup f_law_caught = some ⟨oc_law_caught, od_law_caught, .func (PySem.W.fnOf "_law_caught" "_law_caught" (defArgs s__law_caught) (defBody s__law_caught) (defScope s__law_caught) .none kV_law_caught dc_law_caught pm_law_caught an_law_caught cd_law_caught ct_law_caught), sl_law_caught⟩)
    (c_law_caught : PySem.W.codeIn K cd_law_caught "_law_caught" = true)
    (k_law_caught : PySem.W.keepIn K (.ref f_law_caught) = true)
    (m_BadShape : PySem.W.nsIn K mainGlobals "BadShape" = some (some (.ref C_BadShape)))
    (x_BadShape : K.lookup C_BadShape = some (excClassObj nm_BadShape q_BadShape C_BadShape N_BadShape bs_BadShape [.ref C_MetError, .type "ValueError", .type "Exception", .type "BaseException", .type "object"] true sn_BadShape sub_BadShape ab_BadShape col_BadShape dd_BadShape m0_BadShape m1_BadShape m2_BadShape m3_BadShape m5_BadShape "ValueError.__new__"))
    (s_BadShape : PySem.W.findIn K (.ref C_BadShape) "__setattr__" = some (some (.builtin "object.__setattr__")))
    (ga_BadShape : PySem.W.findIn K (.ref C_BadShape) "__getattribute__" = some (some (.builtin "BaseException.__getattribute__")))
    (gg_BadShape : PySem.W.findIn K (.ref C_BadShape) "__getattr__" = some none)
    (no_BadShape : PySem.W.findIn K (.ref C_BadShape) "at" = some none)
    (a_BadShape_init : PySem.W.findIn K (.ref C_BadShape) "__init__" = some (some (.ref f_BadShape_init)))
    (l_BadShape_init : K.lookup f_BadShape_init = some ⟨oc_BadShape_init, od_BadShape_init, .func (PySem.W.fnOf "__init__" "BadShape.__init__" (defArgs s_BadShape_init) (defBody s_BadShape_init) (defScope s_BadShape_init) .none kV_BadShape_init dc_BadShape_init pm_BadShape_init an_BadShape_init cd_BadShape_init ct_BadShape_init), sl_BadShape_init⟩)
    (c_BadShape_init : PySem.W.codeIn K cd_BadShape_init "BadShape.__init__" = true)
    (k_BadShape_init : PySem.W.keepIn K (.ref f_BadShape_init) = true)
    (t_BadShape_init : PySem.W.typeIn K (.ref f_BadShape_init) = some (.type "function"))
    (e_BadShape : PySem.W.subIn K (.ref C_BadShape) (.type "BaseException") = some true)
    (ty_BadShape : PySem.W.typeIn K (.ref C_BadShape) = some (.type "type"))
    (kk_BadShape : PySem.W.keepIn K (.ref C_BadShape) = true)
    (hd_BadShape : PySem.W.hasDictIn K C_BadShape = true)
    (m_BadName : PySem.W.nsIn K mainGlobals "BadName" = some (some (.ref C_BadName)))
    (x_BadName : K.lookup C_BadName = some (excClassObj nm_BadName q_BadName C_BadName N_BadName bs_BadName [.ref C_MetError, .type "ValueError", .type "Exception", .type "BaseException", .type "object"] true sn_BadName sub_BadName ab_BadName col_BadName dd_BadName m0_BadName m1_BadName m2_BadName m3_BadName m5_BadName "ValueError.__new__"))
    (s_BadName : PySem.W.findIn K (.ref C_BadName) "__setattr__" = some (some (.builtin "object.__setattr__")))
    (ga_BadName : PySem.W.findIn K (.ref C_BadName) "__getattribute__" = some (some (.builtin "BaseException.__getattribute__")))
    (gg_BadName : PySem.W.findIn K (.ref C_BadName) "__getattr__" = some none)
    (no_BadName : PySem.W.findIn K (.ref C_BadName) "value" = some none)
    (a_BadName_init : PySem.W.findIn K (.ref C_BadName) "__init__" = some (some (.ref f_BadName_init)))
    (l_BadName_init : K.lookup f_BadName_init = some ⟨oc_BadName_init, od_BadName_init, .func (PySem.W.fnOf "__init__" "BadName.__init__" (defArgs s_BadName_init) (defBody s_BadName_init) (defScope s_BadName_init) .none kV_BadName_init dc_BadName_init pm_BadName_init an_BadName_init cd_BadName_init ct_BadName_init), sl_BadName_init⟩)
    (c_BadName_init : PySem.W.codeIn K cd_BadName_init "BadName.__init__" = true)
    (k_BadName_init : PySem.W.keepIn K (.ref f_BadName_init) = true)
    (t_BadName_init : PySem.W.typeIn K (.ref f_BadName_init) = some (.type "function"))
    (e_BadName : PySem.W.subIn K (.ref C_BadName) (.type "BaseException") = some true)
    (ty_BadName : PySem.W.typeIn K (.ref C_BadName) = some (.type "type"))
    (kk_BadName : PySem.W.keepIn K (.ref C_BadName) = true)
    (hd_BadName : PySem.W.hasDictIn K C_BadName = true)
    (m_BadStore : PySem.W.nsIn K mainGlobals "BadStore" = some (some (.ref C_BadStore)))
    (x_BadStore : K.lookup C_BadStore = some (excClassObj nm_BadStore q_BadStore C_BadStore N_BadStore bs_BadStore [.ref C_MetError, .type "ValueError", .type "Exception", .type "BaseException", .type "object"] true sn_BadStore sub_BadStore ab_BadStore col_BadStore dd_BadStore m0_BadStore m1_BadStore m2_BadStore m3_BadStore m5_BadStore "ValueError.__new__"))
    (s_BadStore : PySem.W.findIn K (.ref C_BadStore) "__setattr__" = some (some (.builtin "object.__setattr__")))
    (ga_BadStore : PySem.W.findIn K (.ref C_BadStore) "__getattribute__" = some (some (.builtin "BaseException.__getattribute__")))
    (gg_BadStore : PySem.W.findIn K (.ref C_BadStore) "__getattr__" = some none)
    (no_BadStore : PySem.W.findIn K (.ref C_BadStore) "value" = some none)
    (a_BadStore_init : PySem.W.findIn K (.ref C_BadStore) "__init__" = some (some (.ref f_BadStore_init)))
    (l_BadStore_init : K.lookup f_BadStore_init = some ⟨oc_BadStore_init, od_BadStore_init, .func (PySem.W.fnOf "__init__" "BadStore.__init__" (defArgs s_BadStore_init) (defBody s_BadStore_init) (defScope s_BadStore_init) .none kV_BadStore_init dc_BadStore_init pm_BadStore_init an_BadStore_init cd_BadStore_init ct_BadStore_init), sl_BadStore_init⟩)
    (c_BadStore_init : PySem.W.codeIn K cd_BadStore_init "BadStore.__init__" = true)
    (k_BadStore_init : PySem.W.keepIn K (.ref f_BadStore_init) = true)
    (t_BadStore_init : PySem.W.typeIn K (.ref f_BadStore_init) = some (.type "function"))
    (e_BadStore : PySem.W.subIn K (.ref C_BadStore) (.type "BaseException") = some true)
    (ty_BadStore : PySem.W.typeIn K (.ref C_BadStore) = some (.type "type"))
    (kk_BadStore : PySem.W.keepIn K (.ref C_BadStore) = true)
    (hd_BadStore : PySem.W.hasDictIn K C_BadStore = true)
    (m_BadRows : PySem.W.nsIn K mainGlobals "BadRows" = some (some (.ref C_BadRows)))
    (x_BadRows : K.lookup C_BadRows = some (excClassObj nm_BadRows q_BadRows C_BadRows N_BadRows bs_BadRows [.ref C_MetError, .type "ValueError", .type "Exception", .type "BaseException", .type "object"] true sn_BadRows sub_BadRows ab_BadRows col_BadRows dd_BadRows m0_BadRows m1_BadRows m2_BadRows m3_BadRows m5_BadRows "ValueError.__new__"))
    (s_BadRows : PySem.W.findIn K (.ref C_BadRows) "__setattr__" = some (some (.builtin "object.__setattr__")))
    (ga_BadRows : PySem.W.findIn K (.ref C_BadRows) "__getattribute__" = some (some (.builtin "BaseException.__getattribute__")))
    (gg_BadRows : PySem.W.findIn K (.ref C_BadRows) "__getattr__" = some none)
    (no_BadRows : PySem.W.findIn K (.ref C_BadRows) "value" = some none)
    (a_BadRows_init : PySem.W.findIn K (.ref C_BadRows) "__init__" = some (some (.ref f_BadRows_init)))
    (l_BadRows_init : K.lookup f_BadRows_init = some ⟨oc_BadRows_init, od_BadRows_init, .func (PySem.W.fnOf "__init__" "BadRows.__init__" (defArgs s_BadRows_init) (defBody s_BadRows_init) (defScope s_BadRows_init) .none kV_BadRows_init dc_BadRows_init pm_BadRows_init an_BadRows_init cd_BadRows_init ct_BadRows_init), sl_BadRows_init⟩)
    (c_BadRows_init : PySem.W.codeIn K cd_BadRows_init "BadRows.__init__" = true)
    (k_BadRows_init : PySem.W.keepIn K (.ref f_BadRows_init) = true)
    (t_BadRows_init : PySem.W.typeIn K (.ref f_BadRows_init) = some (.type "function"))
    (e_BadRows : PySem.W.subIn K (.ref C_BadRows) (.type "BaseException") = some true)
    (ty_BadRows : PySem.W.typeIn K (.ref C_BadRows) = some (.type "type"))
    (kk_BadRows : PySem.W.keepIn K (.ref C_BadRows) = true)
    (hd_BadRows : PySem.W.hasDictIn K C_BadRows = true)
    (m_BadIndex : PySem.W.nsIn K mainGlobals "BadIndex" = some (some (.ref C_BadIndex)))
    (x_BadIndex : K.lookup C_BadIndex = some (excClassObj nm_BadIndex q_BadIndex C_BadIndex N_BadIndex bs_BadIndex [.ref C_MetError, .type "ValueError", .type "Exception", .type "BaseException", .type "object"] true sn_BadIndex sub_BadIndex ab_BadIndex col_BadIndex dd_BadIndex m0_BadIndex m1_BadIndex m2_BadIndex m3_BadIndex m5_BadIndex "ValueError.__new__"))
    (s_BadIndex : PySem.W.findIn K (.ref C_BadIndex) "__setattr__" = some (some (.builtin "object.__setattr__")))
    (ga_BadIndex : PySem.W.findIn K (.ref C_BadIndex) "__getattribute__" = some (some (.builtin "BaseException.__getattribute__")))
    (gg_BadIndex : PySem.W.findIn K (.ref C_BadIndex) "__getattr__" = some none)
    (no_BadIndex : PySem.W.findIn K (.ref C_BadIndex) "value" = some none)
    (a_BadIndex_init : PySem.W.findIn K (.ref C_BadIndex) "__init__" = some (some (.ref f_BadIndex_init)))
    (l_BadIndex_init : K.lookup f_BadIndex_init = some ⟨oc_BadIndex_init, od_BadIndex_init, .func (PySem.W.fnOf "__init__" "BadIndex.__init__" (defArgs s_BadIndex_init) (defBody s_BadIndex_init) (defScope s_BadIndex_init) .none kV_BadIndex_init dc_BadIndex_init pm_BadIndex_init an_BadIndex_init cd_BadIndex_init ct_BadIndex_init), sl_BadIndex_init⟩)
    (c_BadIndex_init : PySem.W.codeIn K cd_BadIndex_init "BadIndex.__init__" = true)
    (k_BadIndex_init : PySem.W.keepIn K (.ref f_BadIndex_init) = true)
    (t_BadIndex_init : PySem.W.typeIn K (.ref f_BadIndex_init) = some (.type "function"))
    (e_BadIndex : PySem.W.subIn K (.ref C_BadIndex) (.type "BaseException") = some true)
    (ty_BadIndex : PySem.W.typeIn K (.ref C_BadIndex) = some (.type "type"))
    (kk_BadIndex : PySem.W.keepIn K (.ref C_BadIndex) = true)
    (hd_BadIndex : PySem.W.hasDictIn K C_BadIndex = true)
    (m_BadBlock : PySem.W.nsIn K mainGlobals "BadBlock" = some (some (.ref C_BadBlock)))
    (x_BadBlock : K.lookup C_BadBlock = some (excClassObj nm_BadBlock q_BadBlock C_BadBlock N_BadBlock bs_BadBlock [.ref C_MetError, .type "ValueError", .type "Exception", .type "BaseException", .type "object"] true sn_BadBlock sub_BadBlock ab_BadBlock col_BadBlock dd_BadBlock m0_BadBlock m1_BadBlock m2_BadBlock m3_BadBlock m5_BadBlock "ValueError.__new__"))
    (s_BadBlock : PySem.W.findIn K (.ref C_BadBlock) "__setattr__" = some (some (.builtin "object.__setattr__")))
    (ga_BadBlock : PySem.W.findIn K (.ref C_BadBlock) "__getattribute__" = some (some (.builtin "BaseException.__getattribute__")))
    (gg_BadBlock : PySem.W.findIn K (.ref C_BadBlock) "__getattr__" = some none)
    (no_BadBlock : PySem.W.findIn K (.ref C_BadBlock) "at" = some none)
    (a_BadBlock_init : PySem.W.findIn K (.ref C_BadBlock) "__init__" = some (some (.ref f_BadBlock_init)))
    (l_BadBlock_init : K.lookup f_BadBlock_init = some ⟨oc_BadBlock_init, od_BadBlock_init, .func (PySem.W.fnOf "__init__" "BadBlock.__init__" (defArgs s_BadBlock_init) (defBody s_BadBlock_init) (defScope s_BadBlock_init) .none kV_BadBlock_init dc_BadBlock_init pm_BadBlock_init an_BadBlock_init cd_BadBlock_init ct_BadBlock_init), sl_BadBlock_init⟩)
    (c_BadBlock_init : PySem.W.codeIn K cd_BadBlock_init "BadBlock.__init__" = true)
    (k_BadBlock_init : PySem.W.keepIn K (.ref f_BadBlock_init) = true)
    (t_BadBlock_init : PySem.W.typeIn K (.ref f_BadBlock_init) = some (.type "function"))
    (e_BadBlock : PySem.W.subIn K (.ref C_BadBlock) (.type "BaseException") = some true)
    (ty_BadBlock : PySem.W.typeIn K (.ref C_BadBlock) = some (.type "type"))
    (kk_BadBlock : PySem.W.keepIn K (.ref C_BadBlock) = true)
    (hd_BadBlock : PySem.W.hasDictIn K C_BadBlock = true)
    (m_BadProgram : PySem.W.nsIn K mainGlobals "BadProgram" = some (some (.ref C_BadProgram)))
    (x_BadProgram : K.lookup C_BadProgram = some (excClassObj nm_BadProgram q_BadProgram C_BadProgram N_BadProgram bs_BadProgram [.ref C_MetError, .type "ValueError", .type "Exception", .type "BaseException", .type "object"] true sn_BadProgram sub_BadProgram ab_BadProgram col_BadProgram dd_BadProgram m0_BadProgram m1_BadProgram m2_BadProgram m3_BadProgram m5_BadProgram "ValueError.__new__"))
    (s_BadProgram : PySem.W.findIn K (.ref C_BadProgram) "__setattr__" = some (some (.builtin "object.__setattr__")))
    (ga_BadProgram : PySem.W.findIn K (.ref C_BadProgram) "__getattribute__" = some (some (.builtin "BaseException.__getattribute__")))
    (gg_BadProgram : PySem.W.findIn K (.ref C_BadProgram) "__getattr__" = some none)
    (no_BadProgram : PySem.W.findIn K (.ref C_BadProgram) "value" = some none)
    (a_BadProgram_init : PySem.W.findIn K (.ref C_BadProgram) "__init__" = some (some (.ref f_BadProgram_init)))
    (l_BadProgram_init : K.lookup f_BadProgram_init = some ⟨oc_BadProgram_init, od_BadProgram_init, .func (PySem.W.fnOf "__init__" "BadProgram.__init__" (defArgs s_BadProgram_init) (defBody s_BadProgram_init) (defScope s_BadProgram_init) .none kV_BadProgram_init dc_BadProgram_init pm_BadProgram_init an_BadProgram_init cd_BadProgram_init ct_BadProgram_init), sl_BadProgram_init⟩)
    (c_BadProgram_init : PySem.W.codeIn K cd_BadProgram_init "BadProgram.__init__" = true)
    (k_BadProgram_init : PySem.W.keepIn K (.ref f_BadProgram_init) = true)
    (t_BadProgram_init : PySem.W.typeIn K (.ref f_BadProgram_init) = some (.type "function"))
    (e_BadProgram : PySem.W.subIn K (.ref C_BadProgram) (.type "BaseException") = some true)
    (ty_BadProgram : PySem.W.typeIn K (.ref C_BadProgram) = some (.type "type"))
    (kk_BadProgram : PySem.W.keepIn K (.ref C_BadProgram) = true)
    (hd_BadProgram : PySem.W.hasDictIn K C_BadProgram = true)
    (m_BadPattern : PySem.W.nsIn K mainGlobals "BadPattern" = some (some (.ref C_BadPattern)))
    (x_BadPattern : K.lookup C_BadPattern = some (excClassObj nm_BadPattern q_BadPattern C_BadPattern N_BadPattern bs_BadPattern [.ref C_MetError, .type "ValueError", .type "Exception", .type "BaseException", .type "object"] true sn_BadPattern sub_BadPattern ab_BadPattern col_BadPattern dd_BadPattern m0_BadPattern m1_BadPattern m2_BadPattern m3_BadPattern m5_BadPattern "ValueError.__new__"))
    (s_BadPattern : PySem.W.findIn K (.ref C_BadPattern) "__setattr__" = some (some (.builtin "object.__setattr__")))
    (ga_BadPattern : PySem.W.findIn K (.ref C_BadPattern) "__getattribute__" = some (some (.builtin "BaseException.__getattribute__")))
    (gg_BadPattern : PySem.W.findIn K (.ref C_BadPattern) "__getattr__" = some none)
    (no_BadPattern : PySem.W.findIn K (.ref C_BadPattern) "at" = some none)
    (a_BadPattern_init : PySem.W.findIn K (.ref C_BadPattern) "__init__" = some (some (.ref f_BadPattern_init)))
    (l_BadPattern_init : K.lookup f_BadPattern_init = some ⟨oc_BadPattern_init, od_BadPattern_init, .func (PySem.W.fnOf "__init__" "BadPattern.__init__" (defArgs s_BadPattern_init) (defBody s_BadPattern_init) (defScope s_BadPattern_init) .none kV_BadPattern_init dc_BadPattern_init pm_BadPattern_init an_BadPattern_init cd_BadPattern_init ct_BadPattern_init), sl_BadPattern_init⟩)
    (c_BadPattern_init : PySem.W.codeIn K cd_BadPattern_init "BadPattern.__init__" = true)
    (k_BadPattern_init : PySem.W.keepIn K (.ref f_BadPattern_init) = true)
    (t_BadPattern_init : PySem.W.typeIn K (.ref f_BadPattern_init) = some (.type "function"))
    (e_BadPattern : PySem.W.subIn K (.ref C_BadPattern) (.type "BaseException") = some true)
    (ty_BadPattern : PySem.W.typeIn K (.ref C_BadPattern) = some (.type "type"))
    (kk_BadPattern : PySem.W.keepIn K (.ref C_BadPattern) = true)
    (hd_BadPattern : PySem.W.hasDictIn K C_BadPattern = true)
    (m_BadPair : PySem.W.nsIn K mainGlobals "BadPair" = some (some (.ref C_BadPair)))
    (x_BadPair : K.lookup C_BadPair = some (excClassObj nm_BadPair q_BadPair C_BadPair N_BadPair bs_BadPair [.ref C_MetError, .type "ValueError", .type "Exception", .type "BaseException", .type "object"] true sn_BadPair sub_BadPair ab_BadPair col_BadPair dd_BadPair m0_BadPair m1_BadPair m2_BadPair m3_BadPair m5_BadPair "ValueError.__new__"))
    (s_BadPair : PySem.W.findIn K (.ref C_BadPair) "__setattr__" = some (some (.builtin "object.__setattr__")))
    (ga_BadPair : PySem.W.findIn K (.ref C_BadPair) "__getattribute__" = some (some (.builtin "BaseException.__getattribute__")))
    (gg_BadPair : PySem.W.findIn K (.ref C_BadPair) "__getattr__" = some none)
    (no_BadPair : PySem.W.findIn K (.ref C_BadPair) "value" = some none)
    (a_BadPair_init : PySem.W.findIn K (.ref C_BadPair) "__init__" = some (some (.ref f_BadPair_init)))
    (l_BadPair_init : K.lookup f_BadPair_init = some ⟨oc_BadPair_init, od_BadPair_init, .func (PySem.W.fnOf "__init__" "BadPair.__init__" (defArgs s_BadPair_init) (defBody s_BadPair_init) (defScope s_BadPair_init) .none kV_BadPair_init dc_BadPair_init pm_BadPair_init an_BadPair_init cd_BadPair_init ct_BadPair_init), sl_BadPair_init⟩)
    (c_BadPair_init : PySem.W.codeIn K cd_BadPair_init "BadPair.__init__" = true)
    (k_BadPair_init : PySem.W.keepIn K (.ref f_BadPair_init) = true)
    (t_BadPair_init : PySem.W.typeIn K (.ref f_BadPair_init) = some (.type "function"))
    (e_BadPair : PySem.W.subIn K (.ref C_BadPair) (.type "BaseException") = some true)
    (ty_BadPair : PySem.W.typeIn K (.ref C_BadPair) = some (.type "type"))
    (kk_BadPair : PySem.W.keepIn K (.ref C_BadPair) = true)
    (hd_BadPair : PySem.W.hasDictIn K C_BadPair = true)
    (m_BadMove : PySem.W.nsIn K mainGlobals "BadMove" = some (some (.ref C_BadMove)))
    (x_BadMove : K.lookup C_BadMove = some (excClassObj nm_BadMove q_BadMove C_BadMove N_BadMove bs_BadMove [.ref C_MetError, .type "ValueError", .type "Exception", .type "BaseException", .type "object"] true sn_BadMove sub_BadMove ab_BadMove col_BadMove dd_BadMove m0_BadMove m1_BadMove m2_BadMove m3_BadMove m5_BadMove "ValueError.__new__"))
    (s_BadMove : PySem.W.findIn K (.ref C_BadMove) "__setattr__" = some (some (.builtin "object.__setattr__")))
    (ga_BadMove : PySem.W.findIn K (.ref C_BadMove) "__getattribute__" = some (some (.builtin "BaseException.__getattribute__")))
    (gg_BadMove : PySem.W.findIn K (.ref C_BadMove) "__getattr__" = some none)
    (no_BadMove : PySem.W.findIn K (.ref C_BadMove) "value" = some none)
    (a_BadMove_init : PySem.W.findIn K (.ref C_BadMove) "__init__" = some (some (.ref f_BadMove_init)))
    (l_BadMove_init : K.lookup f_BadMove_init = some ⟨oc_BadMove_init, od_BadMove_init, .func (PySem.W.fnOf "__init__" "BadMove.__init__" (defArgs s_BadMove_init) (defBody s_BadMove_init) (defScope s_BadMove_init) .none kV_BadMove_init dc_BadMove_init pm_BadMove_init an_BadMove_init cd_BadMove_init ct_BadMove_init), sl_BadMove_init⟩)
    (c_BadMove_init : PySem.W.codeIn K cd_BadMove_init "BadMove.__init__" = true)
    (k_BadMove_init : PySem.W.keepIn K (.ref f_BadMove_init) = true)
    (t_BadMove_init : PySem.W.typeIn K (.ref f_BadMove_init) = some (.type "function"))
    (e_BadMove : PySem.W.subIn K (.ref C_BadMove) (.type "BaseException") = some true)
    (ty_BadMove : PySem.W.typeIn K (.ref C_BadMove) = some (.type "type"))
    (kk_BadMove : PySem.W.keepIn K (.ref C_BadMove) = true)
    (hd_BadMove : PySem.W.hasDictIn K C_BadMove = true)
    (m_BadAsk : PySem.W.nsIn K mainGlobals "BadAsk" = some (some (.ref C_BadAsk)))
    (x_BadAsk : K.lookup C_BadAsk = some (excClassObj nm_BadAsk q_BadAsk C_BadAsk N_BadAsk bs_BadAsk [.ref C_MetError, .type "ValueError", .type "Exception", .type "BaseException", .type "object"] true sn_BadAsk sub_BadAsk ab_BadAsk col_BadAsk dd_BadAsk m0_BadAsk m1_BadAsk m2_BadAsk m3_BadAsk m5_BadAsk "ValueError.__new__"))
    (s_BadAsk : PySem.W.findIn K (.ref C_BadAsk) "__setattr__" = some (some (.builtin "object.__setattr__")))
    (ga_BadAsk : PySem.W.findIn K (.ref C_BadAsk) "__getattribute__" = some (some (.builtin "BaseException.__getattribute__")))
    (gg_BadAsk : PySem.W.findIn K (.ref C_BadAsk) "__getattr__" = some none)
    (no_BadAsk : PySem.W.findIn K (.ref C_BadAsk) "at" = some none)
    (a_BadAsk_init : PySem.W.findIn K (.ref C_BadAsk) "__init__" = some (some (.ref f_BadAsk_init)))
    (l_BadAsk_init : K.lookup f_BadAsk_init = some ⟨oc_BadAsk_init, od_BadAsk_init, .func (PySem.W.fnOf "__init__" "BadAsk.__init__" (defArgs s_BadAsk_init) (defBody s_BadAsk_init) (defScope s_BadAsk_init) .none kV_BadAsk_init dc_BadAsk_init pm_BadAsk_init an_BadAsk_init cd_BadAsk_init ct_BadAsk_init), sl_BadAsk_init⟩)
    (c_BadAsk_init : PySem.W.codeIn K cd_BadAsk_init "BadAsk.__init__" = true)
    (k_BadAsk_init : PySem.W.keepIn K (.ref f_BadAsk_init) = true)
    (t_BadAsk_init : PySem.W.typeIn K (.ref f_BadAsk_init) = some (.type "function"))
    (e_BadAsk : PySem.W.subIn K (.ref C_BadAsk) (.type "BaseException") = some true)
    (ty_BadAsk : PySem.W.typeIn K (.ref C_BadAsk) = some (.type "type"))
    (kk_BadAsk : PySem.W.keepIn K (.ref C_BadAsk) = true)
    (hd_BadAsk : PySem.W.hasDictIn K C_BadAsk = true)
    (m_BadAsks : PySem.W.nsIn K mainGlobals "BadAsks" = some (some (.ref C_BadAsks)))
    (x_BadAsks : K.lookup C_BadAsks = some (excClassObj nm_BadAsks q_BadAsks C_BadAsks N_BadAsks bs_BadAsks [.ref C_MetError, .type "ValueError", .type "Exception", .type "BaseException", .type "object"] true sn_BadAsks sub_BadAsks ab_BadAsks col_BadAsks dd_BadAsks m0_BadAsks m1_BadAsks m2_BadAsks m3_BadAsks m5_BadAsks "ValueError.__new__"))
    (s_BadAsks : PySem.W.findIn K (.ref C_BadAsks) "__setattr__" = some (some (.builtin "object.__setattr__")))
    (ga_BadAsks : PySem.W.findIn K (.ref C_BadAsks) "__getattribute__" = some (some (.builtin "BaseException.__getattribute__")))
    (gg_BadAsks : PySem.W.findIn K (.ref C_BadAsks) "__getattr__" = some none)
    (no_BadAsks : PySem.W.findIn K (.ref C_BadAsks) "value" = some none)
    (a_BadAsks_init : PySem.W.findIn K (.ref C_BadAsks) "__init__" = some (some (.ref f_BadAsks_init)))
    (l_BadAsks_init : K.lookup f_BadAsks_init = some ⟨oc_BadAsks_init, od_BadAsks_init, .func (PySem.W.fnOf "__init__" "BadAsks.__init__" (defArgs s_BadAsks_init) (defBody s_BadAsks_init) (defScope s_BadAsks_init) .none kV_BadAsks_init dc_BadAsks_init pm_BadAsks_init an_BadAsks_init cd_BadAsks_init ct_BadAsks_init), sl_BadAsks_init⟩)
    (c_BadAsks_init : PySem.W.codeIn K cd_BadAsks_init "BadAsks.__init__" = true)
    (k_BadAsks_init : PySem.W.keepIn K (.ref f_BadAsks_init) = true)
    (t_BadAsks_init : PySem.W.typeIn K (.ref f_BadAsks_init) = some (.type "function"))
    (e_BadAsks : PySem.W.subIn K (.ref C_BadAsks) (.type "BaseException") = some true)
    (ty_BadAsks : PySem.W.typeIn K (.ref C_BadAsks) = some (.type "type"))
    (kk_BadAsks : PySem.W.keepIn K (.ref C_BadAsks) = true)
    (hd_BadAsks : PySem.W.hasDictIn K C_BadAsks = true)
    (m_BadPlan : PySem.W.nsIn K mainGlobals "BadPlan" = some (some (.ref C_BadPlan)))
    (x_BadPlan : K.lookup C_BadPlan = some (excClassObj nm_BadPlan q_BadPlan C_BadPlan N_BadPlan bs_BadPlan [.ref C_MetError, .type "ValueError", .type "Exception", .type "BaseException", .type "object"] true sn_BadPlan sub_BadPlan ab_BadPlan col_BadPlan dd_BadPlan m0_BadPlan m1_BadPlan m2_BadPlan m3_BadPlan m5_BadPlan "ValueError.__new__"))
    (s_BadPlan : PySem.W.findIn K (.ref C_BadPlan) "__setattr__" = some (some (.builtin "object.__setattr__")))
    (ga_BadPlan : PySem.W.findIn K (.ref C_BadPlan) "__getattribute__" = some (some (.builtin "BaseException.__getattribute__")))
    (gg_BadPlan : PySem.W.findIn K (.ref C_BadPlan) "__getattr__" = some none)
    (no_BadPlan : PySem.W.findIn K (.ref C_BadPlan) "value" = some none)
    (a_BadPlan_init : PySem.W.findIn K (.ref C_BadPlan) "__init__" = some (some (.ref f_BadPlan_init)))
    (l_BadPlan_init : K.lookup f_BadPlan_init = some ⟨oc_BadPlan_init, od_BadPlan_init, .func (PySem.W.fnOf "__init__" "BadPlan.__init__" (defArgs s_BadPlan_init) (defBody s_BadPlan_init) (defScope s_BadPlan_init) .none kV_BadPlan_init dc_BadPlan_init pm_BadPlan_init an_BadPlan_init cd_BadPlan_init ct_BadPlan_init), sl_BadPlan_init⟩)
    (c_BadPlan_init : PySem.W.codeIn K cd_BadPlan_init "BadPlan.__init__" = true)
    (k_BadPlan_init : PySem.W.keepIn K (.ref f_BadPlan_init) = true)
    (t_BadPlan_init : PySem.W.typeIn K (.ref f_BadPlan_init) = some (.type "function"))
    (e_BadPlan : PySem.W.subIn K (.ref C_BadPlan) (.type "BaseException") = some true)
    (ty_BadPlan : PySem.W.typeIn K (.ref C_BadPlan) = some (.type "type"))
    (kk_BadPlan : PySem.W.keepIn K (.ref C_BadPlan) = true)
    (hd_BadPlan : PySem.W.hasDictIn K C_BadPlan = true)
    (m_BadCount : PySem.W.nsIn K mainGlobals "BadCount" = some (some (.ref C_BadCount)))
    (x_BadCount : K.lookup C_BadCount = some (excClassObj nm_BadCount q_BadCount C_BadCount N_BadCount bs_BadCount [.ref C_MetError, .type "ValueError", .type "Exception", .type "BaseException", .type "object"] true sn_BadCount sub_BadCount ab_BadCount col_BadCount dd_BadCount m0_BadCount m1_BadCount m2_BadCount m3_BadCount m5_BadCount "ValueError.__new__"))
    (s_BadCount : PySem.W.findIn K (.ref C_BadCount) "__setattr__" = some (some (.builtin "object.__setattr__")))
    (ga_BadCount : PySem.W.findIn K (.ref C_BadCount) "__getattribute__" = some (some (.builtin "BaseException.__getattribute__")))
    (gg_BadCount : PySem.W.findIn K (.ref C_BadCount) "__getattr__" = some none)
    (no_BadCount : PySem.W.findIn K (.ref C_BadCount) "value" = some none)
    (a_BadCount_init : PySem.W.findIn K (.ref C_BadCount) "__init__" = some (some (.ref f_BadCount_init)))
    (l_BadCount_init : K.lookup f_BadCount_init = some ⟨oc_BadCount_init, od_BadCount_init, .func (PySem.W.fnOf "__init__" "BadCount.__init__" (defArgs s_BadCount_init) (defBody s_BadCount_init) (defScope s_BadCount_init) .none kV_BadCount_init dc_BadCount_init pm_BadCount_init an_BadCount_init cd_BadCount_init ct_BadCount_init), sl_BadCount_init⟩)
    (c_BadCount_init : PySem.W.codeIn K cd_BadCount_init "BadCount.__init__" = true)
    (k_BadCount_init : PySem.W.keepIn K (.ref f_BadCount_init) = true)
    (t_BadCount_init : PySem.W.typeIn K (.ref f_BadCount_init) = some (.type "function"))
    (e_BadCount : PySem.W.subIn K (.ref C_BadCount) (.type "BaseException") = some true)
    (ty_BadCount : PySem.W.typeIn K (.ref C_BadCount) = some (.type "type"))
    (kk_BadCount : PySem.W.keepIn K (.ref C_BadCount) = true)
    (hd_BadCount : PySem.W.hasDictIn K C_BadCount = true)
    (m_BadText : PySem.W.nsIn K mainGlobals "BadText" = some (some (.ref C_BadText)))
    (x_BadText : K.lookup C_BadText = some (excClassObj nm_BadText q_BadText C_BadText N_BadText bs_BadText [.ref C_MetError, .type "ValueError", .type "Exception", .type "BaseException", .type "object"] true sn_BadText sub_BadText ab_BadText col_BadText dd_BadText m0_BadText m1_BadText m2_BadText m3_BadText m5_BadText "ValueError.__new__"))
    (s_BadText : PySem.W.findIn K (.ref C_BadText) "__setattr__" = some (some (.builtin "object.__setattr__")))
    (ga_BadText : PySem.W.findIn K (.ref C_BadText) "__getattribute__" = some (some (.builtin "BaseException.__getattribute__")))
    (gg_BadText : PySem.W.findIn K (.ref C_BadText) "__getattr__" = some none)
    (no_BadText : PySem.W.findIn K (.ref C_BadText) "at" = some none)
    (a_BadText_init : PySem.W.findIn K (.ref C_BadText) "__init__" = some (some (.ref f_BadText_init)))
    (l_BadText_init : K.lookup f_BadText_init = some ⟨oc_BadText_init, od_BadText_init, .func (PySem.W.fnOf "__init__" "BadText.__init__" (defArgs s_BadText_init) (defBody s_BadText_init) (defScope s_BadText_init) .none kV_BadText_init dc_BadText_init pm_BadText_init an_BadText_init cd_BadText_init ct_BadText_init), sl_BadText_init⟩)
    (c_BadText_init : PySem.W.codeIn K cd_BadText_init "BadText.__init__" = true)
    (k_BadText_init : PySem.W.keepIn K (.ref f_BadText_init) = true)
    (t_BadText_init : PySem.W.typeIn K (.ref f_BadText_init) = some (.type "function"))
    (e_BadText : PySem.W.subIn K (.ref C_BadText) (.type "BaseException") = some true)
    (ty_BadText : PySem.W.typeIn K (.ref C_BadText) = some (.type "type"))
    (kk_BadText : PySem.W.keepIn K (.ref C_BadText) = true)
    (hd_BadText : PySem.W.hasDictIn K C_BadText = true)
    (m_NotPlain : PySem.W.nsIn K mainGlobals "NotPlain" = some (some (.ref C_NotPlain)))
    (x_NotPlain : K.lookup C_NotPlain = some (excClassObj nm_NotPlain q_NotPlain C_NotPlain N_NotPlain bs_NotPlain [.ref C_MetError, .type "ValueError", .type "Exception", .type "BaseException", .type "object"] true sn_NotPlain sub_NotPlain ab_NotPlain col_NotPlain dd_NotPlain m0_NotPlain m1_NotPlain m2_NotPlain m3_NotPlain m5_NotPlain "ValueError.__new__"))
    (s_NotPlain : PySem.W.findIn K (.ref C_NotPlain) "__setattr__" = some (some (.builtin "object.__setattr__")))
    (ga_NotPlain : PySem.W.findIn K (.ref C_NotPlain) "__getattribute__" = some (some (.builtin "BaseException.__getattribute__")))
    (gg_NotPlain : PySem.W.findIn K (.ref C_NotPlain) "__getattr__" = some none)
    (no_NotPlain : PySem.W.findIn K (.ref C_NotPlain) "at" = some none)
    (a_NotPlain_init : PySem.W.findIn K (.ref C_NotPlain) "__init__" = some (some (.ref f_NotPlain_init)))
    (l_NotPlain_init : K.lookup f_NotPlain_init = some ⟨oc_NotPlain_init, od_NotPlain_init, .func (PySem.W.fnOf "__init__" "NotPlain.__init__" (defArgs s_NotPlain_init) (defBody s_NotPlain_init) (defScope s_NotPlain_init) .none kV_NotPlain_init dc_NotPlain_init pm_NotPlain_init an_NotPlain_init cd_NotPlain_init ct_NotPlain_init), sl_NotPlain_init⟩)
    (c_NotPlain_init : PySem.W.codeIn K cd_NotPlain_init "NotPlain.__init__" = true)
    (k_NotPlain_init : PySem.W.keepIn K (.ref f_NotPlain_init) = true)
    (t_NotPlain_init : PySem.W.typeIn K (.ref f_NotPlain_init) = some (.type "function"))
    (e_NotPlain : PySem.W.subIn K (.ref C_NotPlain) (.type "BaseException") = some true)
    (ty_NotPlain : PySem.W.typeIn K (.ref C_NotPlain) = some (.type "type"))
    (kk_NotPlain : PySem.W.keepIn K (.ref C_NotPlain) = true)
    (hd_NotPlain : PySem.W.hasDictIn K C_NotPlain = true)
    (m_Unlike : PySem.W.nsIn K mainGlobals "Unlike" = some (some (.ref C_Unlike)))
    (x_Unlike : K.lookup C_Unlike = some (excClassObj nm_Unlike q_Unlike C_Unlike N_Unlike bs_Unlike [.ref C_MetError, .type "ValueError", .type "Exception", .type "BaseException", .type "object"] true sn_Unlike sub_Unlike ab_Unlike col_Unlike dd_Unlike m0_Unlike m1_Unlike m2_Unlike m3_Unlike m5_Unlike "ValueError.__new__"))
    (s_Unlike : PySem.W.findIn K (.ref C_Unlike) "__setattr__" = some (some (.builtin "object.__setattr__")))
    (ga_Unlike : PySem.W.findIn K (.ref C_Unlike) "__getattribute__" = some (some (.builtin "BaseException.__getattribute__")))
    (gg_Unlike : PySem.W.findIn K (.ref C_Unlike) "__getattr__" = some none)
    (no_Unlike : PySem.W.findIn K (.ref C_Unlike) "value" = some none)
    (a_Unlike_init : PySem.W.findIn K (.ref C_Unlike) "__init__" = some (some (.ref f_Unlike_init)))
    (l_Unlike_init : K.lookup f_Unlike_init = some ⟨oc_Unlike_init, od_Unlike_init, .func (PySem.W.fnOf "__init__" "Unlike.__init__" (defArgs s_Unlike_init) (defBody s_Unlike_init) (defScope s_Unlike_init) .none kV_Unlike_init dc_Unlike_init pm_Unlike_init an_Unlike_init cd_Unlike_init ct_Unlike_init), sl_Unlike_init⟩)
    (c_Unlike_init : PySem.W.codeIn K cd_Unlike_init "Unlike.__init__" = true)
    (k_Unlike_init : PySem.W.keepIn K (.ref f_Unlike_init) = true)
    (t_Unlike_init : PySem.W.typeIn K (.ref f_Unlike_init) = some (.type "function"))
    (e_Unlike : PySem.W.subIn K (.ref C_Unlike) (.type "BaseException") = some true)
    (ty_Unlike : PySem.W.typeIn K (.ref C_Unlike) = some (.type "type"))
    (kk_Unlike : PySem.W.keepIn K (.ref C_Unlike) = true)
    (hd_Unlike : PySem.W.hasDictIn K C_Unlike = true)
    (m_NothingDone : PySem.W.nsIn K mainGlobals "NothingDone" = some (some (.ref C_NothingDone)))
    (z0_NothingDone : PySem.W.excIn K C_NothingDone [.type "ValueError", .type "Exception", .type "BaseException", .type "object"] "ValueError.__new__" = true)
    (kk_NothingDone : PySem.W.keepIn K (.ref C_NothingDone) = true)
    (e_NothingDone : PySem.W.subIn K (.ref C_NothingDone) (.type "BaseException") = some true)
    (ty_NothingDone : PySem.W.typeIn K (.ref C_NothingDone) = some (.type "type"))
    (m_TooMany : PySem.W.nsIn K mainGlobals "TooMany" = some (some (.ref C_TooMany)))
    (z0_TooMany : PySem.W.excIn K C_TooMany [.type "ValueError", .type "Exception", .type "BaseException", .type "object"] "ValueError.__new__" = true)
    (kk_TooMany : PySem.W.keepIn K (.ref C_TooMany) = true)
    (e_TooMany : PySem.W.subIn K (.ref C_TooMany) (.type "BaseException") = some true)
    (ty_TooMany : PySem.W.typeIn K (.ref C_TooMany) = some (.type "type"))
    (m_TooLong : PySem.W.nsIn K mainGlobals "TooLong" = some (some (.ref C_TooLong)))
    (z0_TooLong : PySem.W.excIn K C_TooLong [.type "ValueError", .type "Exception", .type "BaseException", .type "object"] "ValueError.__new__" = true)
    (kk_TooLong : PySem.W.keepIn K (.ref C_TooLong) = true)
    (e_TooLong : PySem.W.subIn K (.ref C_TooLong) (.type "BaseException") = some true)
    (ty_TooLong : PySem.W.typeIn K (.ref C_TooLong) = some (.type "type"))
    (m_MetError : PySem.W.nsIn K mainGlobals "MetError" = some (some (.ref C_MetError)))
    (z0_MetError : PySem.W.excIn K C_MetError [.type "ValueError", .type "Exception", .type "BaseException", .type "object"] "ValueError.__new__" = true)
    (kk_MetError : PySem.W.keepIn K (.ref C_MetError) = true)
    (e_MetError : PySem.W.subIn K (.ref C_MetError) (.type "BaseException") = some true)
    (ty_MetError : PySem.W.typeIn K (.ref C_MetError) = some (.type "type"))
    (kits : kitsB K (fun i => [C_BadShape, C_BadName, C_BadStore, C_BadRows, C_BadIndex, C_BadBlock, C_BadProgram, C_BadPattern, C_BadPair, C_BadMove, C_BadAsk, C_BadAsks, C_BadPlan, C_BadCount, C_BadText, C_NotPlain, C_Unlike, C_NothingDone, C_TooMany, C_TooLong, C_MetError].getD i 0) = true)
    (a_law : PySem.W.nsIn K mainGlobals "law" = some (some (.ref f_law)))
    (l_law : K.lookup f_law = some ⟨oc_law, od_law, .func (PySem.W.fnOf "law" "law" (defArgs s_law) (defBody s_law) (defScope s_law) .none kV_law dc_law pm_law an_law cd_law ct_law), sl_law⟩)
    (c_law : PySem.W.codeIn K cd_law "law" = true)
    (k_law : PySem.W.keepIn K (.ref f_law) = true) :
    ∃ fd : FuncData, (∀ (s : Shared) (v : Value), BindsTo s fd ⟨[v], []⟩ [("_law_script", v)]) ∧ ∀ base : Heap, K.In base → base.Ns mainGlobals mg → FnOk l.prog w K mg base CX0 7 fa fd ["_law_script"] (spLaw K) := by
  have e := hfa.symm.trans (PySem.W.mg_of X G a_law)
  cases e
  have B : Bi mg := ⟨PySem.W.mg_none_of X G z_len, PySem.W.mg_none_of X G z_list, PySem.W.mg_none_of X G z_tuple, PySem.W.mg_none_of X G z_isinstance, PySem.W.mg_none_of X G z_int, PySem.W.mg_none_of X G z_range, PySem.W.mg_none_of X G z_max, PySem.W.mg_none_of X G z_all, PySem.W.mg_none_of X G z_bool, PySem.W.mg_none_of X G z_dict, PySem.W.mg_none_of X G z_str, PySem.W.mg_none_of X G z_enumerate⟩
  have F_law_bag := fun_mk (st := s__law_bag) l_law_bag c_law_bag k_law_bag
  have b_law_bag := F_law_bag.binds (ps := ["_law_script"]) fun _ _ _ _ _ _ us hl => match us, hl with | [_], _ => rfl
  have D_law_bag : Dfn K mg "_law_bag" s__law_bag ["_law_script"] := ⟨_, _, F_law_bag, PySem.W.mg_of X G a_law_bag, b_law_bag⟩
  have F_law_pick := fun_mk (st := s__law_pick) l_law_pick c_law_pick k_law_pick
  have b_law_pick := F_law_pick.binds (ps := ["_law_bag_here", "_law_many"]) fun _ _ _ _ _ _ us hl => match us, hl with | [_, _], _ => rfl
  have D_law_pick : Dfn K mg "_law_pick" s__law_pick ["_law_bag_here", "_law_many"] := ⟨_, _, F_law_pick, PySem.W.mg_of X G a_law_pick, b_law_pick⟩
  have F_law_alike := fun_mk (st := s__law_alike) l_law_alike c_law_alike k_law_alike
  have b_law_alike := F_law_alike.binds (ps := ["_law_one", "_law_other"]) fun _ _ _ _ _ _ us hl => match us, hl with | [_, _], _ => rfl
  have D_law_alike : Dfn K mg "_law_alike" s__law_alike ["_law_one", "_law_other"] := ⟨_, _, F_law_alike, PySem.W.mg_of X G a_law_alike, b_law_alike⟩
  have F_law_odd := fun_mk (st := s__law_odd) l_law_odd c_law_odd k_law_odd
  have b_law_odd := F_law_odd.binds (ps := ["_law_bag_here"]) fun _ _ _ _ _ _ us hl => match us, hl with | [_], _ => rfl
  have D_law_odd : Dfn K mg "_law_odd" s__law_odd ["_law_bag_here"] := ⟨_, _, F_law_odd, PySem.W.mg_of X G a_law_odd, b_law_odd⟩
  have F_law_raise := fun_mk (st := s__law_raise) l_law_raise c_law_raise k_law_raise
  have b_law_raise := F_law_raise.binds (ps := ["_law_which", "_law_thing"]) fun _ _ _ _ _ _ us hl => match us, hl with | [_, _], _ => rfl
  have D_law_raise : Dfn K mg "_law_raise" s__law_raise ["_law_which", "_law_thing"] := ⟨_, _, F_law_raise, PySem.W.mg_of X G a_law_raise, b_law_raise⟩
  have F_law_raise_named := fun_mk (st := s__law_raise_named) l_law_raise_named c_law_raise_named k_law_raise_named
  have b_law_raise_named := F_law_raise_named.binds (ps := ["_law_which", "_law_thing"]) fun _ _ _ _ _ _ us hl => match us, hl with | [_, _], _ => rfl
  have D_law_raise_named : Dfn K mg "_law_raise_named" s__law_raise_named ["_law_which", "_law_thing"] := ⟨_, _, F_law_raise_named, PySem.W.mg_of X G a_law_raise_named, b_law_raise_named⟩
  have F_law_caught := fun_mk (st := s__law_caught) l_law_caught c_law_caught k_law_caught
  have b_law_caught := F_law_caught.binds (ps := ["_law_which", "_law_thing", "_law_named"]) fun _ _ _ _ _ _ us hl => match us, hl with | [_, _, _], _ => rfl
  have D_law_caught : Dfn K mg "_law_caught" s__law_caught ["_law_which", "_law_thing", "_law_named"] := ⟨_, _, F_law_caught, PySem.W.mg_of X G a_law_caught, b_law_caught⟩
  have F_BadShape_init := fun_mk (st := s_BadShape_init) l_BadShape_init c_BadShape_init k_BadShape_init
  have b_BadShape_init := F_BadShape_init.binds (ps := ["self", "at"]) fun _ _ _ _ _ _ us hl => match us, hl with | [_, _], _ => rfl
  have O_BadShape : OexC K C_BadShape := ⟨⟨_, _, _, _, _, _, _, _, _, _, _, _, _, _, _, x_BadShape, (by show PySem.HandSPX.refsVE [.type "ValueError", .type "Exception", .type "BaseException", .type "object"] = true; decide +kernel)⟩, s_BadShape, e_BadShape, ty_BadShape, kk_BadShape⟩
  have ER_BadShape : ∀ base, Err l.prog w K mg base "BadShape" "at" C_BadShape := fun base => ⟨O_BadShape, PySem.W.mg_of X G m_BadShape, ⟨_, _, a_BadShape_init, t_BadShape_init, ok_BadShape_init F_BadShape_init O_BadShape no_BadShape, b_BadShape_init⟩, no_BadShape, ⟨ga_BadShape, gg_BadShape, e_BadShape, hd_BadShape⟩⟩
  have F_BadName_init := fun_mk (st := s_BadName_init) l_BadName_init c_BadName_init k_BadName_init
  have b_BadName_init := F_BadName_init.binds (ps := ["self", "value"]) fun _ _ _ _ _ _ us hl => match us, hl with | [_, _], _ => rfl
  have O_BadName : OexC K C_BadName := ⟨⟨_, _, _, _, _, _, _, _, _, _, _, _, _, _, _, x_BadName, (by show PySem.HandSPX.refsVE [.type "ValueError", .type "Exception", .type "BaseException", .type "object"] = true; decide +kernel)⟩, s_BadName, e_BadName, ty_BadName, kk_BadName⟩
  have ER_BadName : ∀ base, Err l.prog w K mg base "BadName" "value" C_BadName := fun base => ⟨O_BadName, PySem.W.mg_of X G m_BadName, ⟨_, _, a_BadName_init, t_BadName_init, ok_BadName_init F_BadName_init O_BadName no_BadName, b_BadName_init⟩, no_BadName, ⟨ga_BadName, gg_BadName, e_BadName, hd_BadName⟩⟩
  have F_BadStore_init := fun_mk (st := s_BadStore_init) l_BadStore_init c_BadStore_init k_BadStore_init
  have b_BadStore_init := F_BadStore_init.binds (ps := ["self", "value"]) fun _ _ _ _ _ _ us hl => match us, hl with | [_, _], _ => rfl
  have O_BadStore : OexC K C_BadStore := ⟨⟨_, _, _, _, _, _, _, _, _, _, _, _, _, _, _, x_BadStore, (by show PySem.HandSPX.refsVE [.type "ValueError", .type "Exception", .type "BaseException", .type "object"] = true; decide +kernel)⟩, s_BadStore, e_BadStore, ty_BadStore, kk_BadStore⟩
  have ER_BadStore : ∀ base, Err l.prog w K mg base "BadStore" "value" C_BadStore := fun base => ⟨O_BadStore, PySem.W.mg_of X G m_BadStore, ⟨_, _, a_BadStore_init, t_BadStore_init, ok_BadStore_init F_BadStore_init O_BadStore no_BadStore, b_BadStore_init⟩, no_BadStore, ⟨ga_BadStore, gg_BadStore, e_BadStore, hd_BadStore⟩⟩
  have F_BadRows_init := fun_mk (st := s_BadRows_init) l_BadRows_init c_BadRows_init k_BadRows_init
  have b_BadRows_init := F_BadRows_init.binds (ps := ["self", "value"]) fun _ _ _ _ _ _ us hl => match us, hl with | [_, _], _ => rfl
  have O_BadRows : OexC K C_BadRows := ⟨⟨_, _, _, _, _, _, _, _, _, _, _, _, _, _, _, x_BadRows, (by show PySem.HandSPX.refsVE [.type "ValueError", .type "Exception", .type "BaseException", .type "object"] = true; decide +kernel)⟩, s_BadRows, e_BadRows, ty_BadRows, kk_BadRows⟩
  have ER_BadRows : ∀ base, Err l.prog w K mg base "BadRows" "value" C_BadRows := fun base => ⟨O_BadRows, PySem.W.mg_of X G m_BadRows, ⟨_, _, a_BadRows_init, t_BadRows_init, ok_BadRows_init F_BadRows_init O_BadRows no_BadRows, b_BadRows_init⟩, no_BadRows, ⟨ga_BadRows, gg_BadRows, e_BadRows, hd_BadRows⟩⟩
  have F_BadIndex_init := fun_mk (st := s_BadIndex_init) l_BadIndex_init c_BadIndex_init k_BadIndex_init
  have b_BadIndex_init := F_BadIndex_init.binds (ps := ["self", "value"]) fun _ _ _ _ _ _ us hl => match us, hl with | [_, _], _ => rfl
  have O_BadIndex : OexC K C_BadIndex := ⟨⟨_, _, _, _, _, _, _, _, _, _, _, _, _, _, _, x_BadIndex, (by show PySem.HandSPX.refsVE [.type "ValueError", .type "Exception", .type "BaseException", .type "object"] = true; decide +kernel)⟩, s_BadIndex, e_BadIndex, ty_BadIndex, kk_BadIndex⟩
  have ER_BadIndex : ∀ base, Err l.prog w K mg base "BadIndex" "value" C_BadIndex := fun base => ⟨O_BadIndex, PySem.W.mg_of X G m_BadIndex, ⟨_, _, a_BadIndex_init, t_BadIndex_init, ok_BadIndex_init F_BadIndex_init O_BadIndex no_BadIndex, b_BadIndex_init⟩, no_BadIndex, ⟨ga_BadIndex, gg_BadIndex, e_BadIndex, hd_BadIndex⟩⟩
  have F_BadBlock_init := fun_mk (st := s_BadBlock_init) l_BadBlock_init c_BadBlock_init k_BadBlock_init
  have b_BadBlock_init := F_BadBlock_init.binds (ps := ["self", "at"]) fun _ _ _ _ _ _ us hl => match us, hl with | [_, _], _ => rfl
  have O_BadBlock : OexC K C_BadBlock := ⟨⟨_, _, _, _, _, _, _, _, _, _, _, _, _, _, _, x_BadBlock, (by show PySem.HandSPX.refsVE [.type "ValueError", .type "Exception", .type "BaseException", .type "object"] = true; decide +kernel)⟩, s_BadBlock, e_BadBlock, ty_BadBlock, kk_BadBlock⟩
  have ER_BadBlock : ∀ base, Err l.prog w K mg base "BadBlock" "at" C_BadBlock := fun base => ⟨O_BadBlock, PySem.W.mg_of X G m_BadBlock, ⟨_, _, a_BadBlock_init, t_BadBlock_init, ok_BadBlock_init F_BadBlock_init O_BadBlock no_BadBlock, b_BadBlock_init⟩, no_BadBlock, ⟨ga_BadBlock, gg_BadBlock, e_BadBlock, hd_BadBlock⟩⟩
  have F_BadProgram_init := fun_mk (st := s_BadProgram_init) l_BadProgram_init c_BadProgram_init k_BadProgram_init
  have b_BadProgram_init := F_BadProgram_init.binds (ps := ["self", "value"]) fun _ _ _ _ _ _ us hl => match us, hl with | [_, _], _ => rfl
  have O_BadProgram : OexC K C_BadProgram := ⟨⟨_, _, _, _, _, _, _, _, _, _, _, _, _, _, _, x_BadProgram, (by show PySem.HandSPX.refsVE [.type "ValueError", .type "Exception", .type "BaseException", .type "object"] = true; decide +kernel)⟩, s_BadProgram, e_BadProgram, ty_BadProgram, kk_BadProgram⟩
  have ER_BadProgram : ∀ base, Err l.prog w K mg base "BadProgram" "value" C_BadProgram := fun base => ⟨O_BadProgram, PySem.W.mg_of X G m_BadProgram, ⟨_, _, a_BadProgram_init, t_BadProgram_init, ok_BadProgram_init F_BadProgram_init O_BadProgram no_BadProgram, b_BadProgram_init⟩, no_BadProgram, ⟨ga_BadProgram, gg_BadProgram, e_BadProgram, hd_BadProgram⟩⟩
  have F_BadPattern_init := fun_mk (st := s_BadPattern_init) l_BadPattern_init c_BadPattern_init k_BadPattern_init
  have b_BadPattern_init := F_BadPattern_init.binds (ps := ["self", "at"]) fun _ _ _ _ _ _ us hl => match us, hl with | [_, _], _ => rfl
  have O_BadPattern : OexC K C_BadPattern := ⟨⟨_, _, _, _, _, _, _, _, _, _, _, _, _, _, _, x_BadPattern, (by show PySem.HandSPX.refsVE [.type "ValueError", .type "Exception", .type "BaseException", .type "object"] = true; decide +kernel)⟩, s_BadPattern, e_BadPattern, ty_BadPattern, kk_BadPattern⟩
  have ER_BadPattern : ∀ base, Err l.prog w K mg base "BadPattern" "at" C_BadPattern := fun base => ⟨O_BadPattern, PySem.W.mg_of X G m_BadPattern, ⟨_, _, a_BadPattern_init, t_BadPattern_init, ok_BadPattern_init F_BadPattern_init O_BadPattern no_BadPattern, b_BadPattern_init⟩, no_BadPattern, ⟨ga_BadPattern, gg_BadPattern, e_BadPattern, hd_BadPattern⟩⟩
  have F_BadPair_init := fun_mk (st := s_BadPair_init) l_BadPair_init c_BadPair_init k_BadPair_init
  have b_BadPair_init := F_BadPair_init.binds (ps := ["self", "value"]) fun _ _ _ _ _ _ us hl => match us, hl with | [_, _], _ => rfl
  have O_BadPair : OexC K C_BadPair := ⟨⟨_, _, _, _, _, _, _, _, _, _, _, _, _, _, _, x_BadPair, (by show PySem.HandSPX.refsVE [.type "ValueError", .type "Exception", .type "BaseException", .type "object"] = true; decide +kernel)⟩, s_BadPair, e_BadPair, ty_BadPair, kk_BadPair⟩
  have ER_BadPair : ∀ base, Err l.prog w K mg base "BadPair" "value" C_BadPair := fun base => ⟨O_BadPair, PySem.W.mg_of X G m_BadPair, ⟨_, _, a_BadPair_init, t_BadPair_init, ok_BadPair_init F_BadPair_init O_BadPair no_BadPair, b_BadPair_init⟩, no_BadPair, ⟨ga_BadPair, gg_BadPair, e_BadPair, hd_BadPair⟩⟩
  have F_BadMove_init := fun_mk (st := s_BadMove_init) l_BadMove_init c_BadMove_init k_BadMove_init
  have b_BadMove_init := F_BadMove_init.binds (ps := ["self", "value"]) fun _ _ _ _ _ _ us hl => match us, hl with | [_, _], _ => rfl
  have O_BadMove : OexC K C_BadMove := ⟨⟨_, _, _, _, _, _, _, _, _, _, _, _, _, _, _, x_BadMove, (by show PySem.HandSPX.refsVE [.type "ValueError", .type "Exception", .type "BaseException", .type "object"] = true; decide +kernel)⟩, s_BadMove, e_BadMove, ty_BadMove, kk_BadMove⟩
  have ER_BadMove : ∀ base, Err l.prog w K mg base "BadMove" "value" C_BadMove := fun base => ⟨O_BadMove, PySem.W.mg_of X G m_BadMove, ⟨_, _, a_BadMove_init, t_BadMove_init, ok_BadMove_init F_BadMove_init O_BadMove no_BadMove, b_BadMove_init⟩, no_BadMove, ⟨ga_BadMove, gg_BadMove, e_BadMove, hd_BadMove⟩⟩
  have F_BadAsk_init := fun_mk (st := s_BadAsk_init) l_BadAsk_init c_BadAsk_init k_BadAsk_init
  have b_BadAsk_init := F_BadAsk_init.binds (ps := ["self", "at"]) fun _ _ _ _ _ _ us hl => match us, hl with | [_, _], _ => rfl
  have O_BadAsk : OexC K C_BadAsk := ⟨⟨_, _, _, _, _, _, _, _, _, _, _, _, _, _, _, x_BadAsk, (by show PySem.HandSPX.refsVE [.type "ValueError", .type "Exception", .type "BaseException", .type "object"] = true; decide +kernel)⟩, s_BadAsk, e_BadAsk, ty_BadAsk, kk_BadAsk⟩
  have ER_BadAsk : ∀ base, Err l.prog w K mg base "BadAsk" "at" C_BadAsk := fun base => ⟨O_BadAsk, PySem.W.mg_of X G m_BadAsk, ⟨_, _, a_BadAsk_init, t_BadAsk_init, ok_BadAsk_init F_BadAsk_init O_BadAsk no_BadAsk, b_BadAsk_init⟩, no_BadAsk, ⟨ga_BadAsk, gg_BadAsk, e_BadAsk, hd_BadAsk⟩⟩
  have F_BadAsks_init := fun_mk (st := s_BadAsks_init) l_BadAsks_init c_BadAsks_init k_BadAsks_init
  have b_BadAsks_init := F_BadAsks_init.binds (ps := ["self", "value"]) fun _ _ _ _ _ _ us hl => match us, hl with | [_, _], _ => rfl
  have O_BadAsks : OexC K C_BadAsks := ⟨⟨_, _, _, _, _, _, _, _, _, _, _, _, _, _, _, x_BadAsks, (by show PySem.HandSPX.refsVE [.type "ValueError", .type "Exception", .type "BaseException", .type "object"] = true; decide +kernel)⟩, s_BadAsks, e_BadAsks, ty_BadAsks, kk_BadAsks⟩
  have ER_BadAsks : ∀ base, Err l.prog w K mg base "BadAsks" "value" C_BadAsks := fun base => ⟨O_BadAsks, PySem.W.mg_of X G m_BadAsks, ⟨_, _, a_BadAsks_init, t_BadAsks_init, ok_BadAsks_init F_BadAsks_init O_BadAsks no_BadAsks, b_BadAsks_init⟩, no_BadAsks, ⟨ga_BadAsks, gg_BadAsks, e_BadAsks, hd_BadAsks⟩⟩
  have F_BadPlan_init := fun_mk (st := s_BadPlan_init) l_BadPlan_init c_BadPlan_init k_BadPlan_init
  have b_BadPlan_init := F_BadPlan_init.binds (ps := ["self", "value"]) fun _ _ _ _ _ _ us hl => match us, hl with | [_, _], _ => rfl
  have O_BadPlan : OexC K C_BadPlan := ⟨⟨_, _, _, _, _, _, _, _, _, _, _, _, _, _, _, x_BadPlan, (by show PySem.HandSPX.refsVE [.type "ValueError", .type "Exception", .type "BaseException", .type "object"] = true; decide +kernel)⟩, s_BadPlan, e_BadPlan, ty_BadPlan, kk_BadPlan⟩
  have ER_BadPlan : ∀ base, Err l.prog w K mg base "BadPlan" "value" C_BadPlan := fun base => ⟨O_BadPlan, PySem.W.mg_of X G m_BadPlan, ⟨_, _, a_BadPlan_init, t_BadPlan_init, ok_BadPlan_init F_BadPlan_init O_BadPlan no_BadPlan, b_BadPlan_init⟩, no_BadPlan, ⟨ga_BadPlan, gg_BadPlan, e_BadPlan, hd_BadPlan⟩⟩
  have F_BadCount_init := fun_mk (st := s_BadCount_init) l_BadCount_init c_BadCount_init k_BadCount_init
  have b_BadCount_init := F_BadCount_init.binds (ps := ["self", "value"]) fun _ _ _ _ _ _ us hl => match us, hl with | [_, _], _ => rfl
  have O_BadCount : OexC K C_BadCount := ⟨⟨_, _, _, _, _, _, _, _, _, _, _, _, _, _, _, x_BadCount, (by show PySem.HandSPX.refsVE [.type "ValueError", .type "Exception", .type "BaseException", .type "object"] = true; decide +kernel)⟩, s_BadCount, e_BadCount, ty_BadCount, kk_BadCount⟩
  have ER_BadCount : ∀ base, Err l.prog w K mg base "BadCount" "value" C_BadCount := fun base => ⟨O_BadCount, PySem.W.mg_of X G m_BadCount, ⟨_, _, a_BadCount_init, t_BadCount_init, ok_BadCount_init F_BadCount_init O_BadCount no_BadCount, b_BadCount_init⟩, no_BadCount, ⟨ga_BadCount, gg_BadCount, e_BadCount, hd_BadCount⟩⟩
  have F_BadText_init := fun_mk (st := s_BadText_init) l_BadText_init c_BadText_init k_BadText_init
  have b_BadText_init := F_BadText_init.binds (ps := ["self", "at"]) fun _ _ _ _ _ _ us hl => match us, hl with | [_, _], _ => rfl
  have O_BadText : OexC K C_BadText := ⟨⟨_, _, _, _, _, _, _, _, _, _, _, _, _, _, _, x_BadText, (by show PySem.HandSPX.refsVE [.type "ValueError", .type "Exception", .type "BaseException", .type "object"] = true; decide +kernel)⟩, s_BadText, e_BadText, ty_BadText, kk_BadText⟩
  have ER_BadText : ∀ base, Err l.prog w K mg base "BadText" "at" C_BadText := fun base => ⟨O_BadText, PySem.W.mg_of X G m_BadText, ⟨_, _, a_BadText_init, t_BadText_init, ok_BadText_init F_BadText_init O_BadText no_BadText, b_BadText_init⟩, no_BadText, ⟨ga_BadText, gg_BadText, e_BadText, hd_BadText⟩⟩
  have F_NotPlain_init := fun_mk (st := s_NotPlain_init) l_NotPlain_init c_NotPlain_init k_NotPlain_init
  have b_NotPlain_init := F_NotPlain_init.binds (ps := ["self", "at"]) fun _ _ _ _ _ _ us hl => match us, hl with | [_, _], _ => rfl
  have O_NotPlain : OexC K C_NotPlain := ⟨⟨_, _, _, _, _, _, _, _, _, _, _, _, _, _, _, x_NotPlain, (by show PySem.HandSPX.refsVE [.type "ValueError", .type "Exception", .type "BaseException", .type "object"] = true; decide +kernel)⟩, s_NotPlain, e_NotPlain, ty_NotPlain, kk_NotPlain⟩
  have ER_NotPlain : ∀ base, Err l.prog w K mg base "NotPlain" "at" C_NotPlain := fun base => ⟨O_NotPlain, PySem.W.mg_of X G m_NotPlain, ⟨_, _, a_NotPlain_init, t_NotPlain_init, ok_NotPlain_init F_NotPlain_init O_NotPlain no_NotPlain, b_NotPlain_init⟩, no_NotPlain, ⟨ga_NotPlain, gg_NotPlain, e_NotPlain, hd_NotPlain⟩⟩
  have F_Unlike_init := fun_mk (st := s_Unlike_init) l_Unlike_init c_Unlike_init k_Unlike_init
  have b_Unlike_init := F_Unlike_init.binds (ps := ["self", "value"]) fun _ _ _ _ _ _ us hl => match us, hl with | [_, _], _ => rfl
  have O_Unlike : OexC K C_Unlike := ⟨⟨_, _, _, _, _, _, _, _, _, _, _, _, _, _, _, x_Unlike, (by show PySem.HandSPX.refsVE [.type "ValueError", .type "Exception", .type "BaseException", .type "object"] = true; decide +kernel)⟩, s_Unlike, e_Unlike, ty_Unlike, kk_Unlike⟩
  have ER_Unlike : ∀ base, Err l.prog w K mg base "Unlike" "value" C_Unlike := fun base => ⟨O_Unlike, PySem.W.mg_of X G m_Unlike, ⟨_, _, a_Unlike_init, t_Unlike_init, ok_Unlike_init F_Unlike_init O_Unlike no_Unlike, b_Unlike_init⟩, no_Unlike, ⟨ga_Unlike, gg_Unlike, e_Unlike, hd_Unlike⟩⟩
  have E0_NothingDone : Err0 K mg "NothingDone" C_NothingDone := ⟨z0_NothingDone, PySem.W.mg_of X G m_NothingDone, kk_NothingDone, e_NothingDone, ty_NothingDone⟩
  have E0_TooMany : Err0 K mg "TooMany" C_TooMany := ⟨z0_TooMany, PySem.W.mg_of X G m_TooMany, kk_TooMany, e_TooMany, ty_TooMany⟩
  have E0_TooLong : Err0 K mg "TooLong" C_TooLong := ⟨z0_TooLong, PySem.W.mg_of X G m_TooLong, kk_TooLong, e_TooLong, ty_TooLong⟩
  have E0_MetError : Err0 K mg "MetError" C_MetError := ⟨z0_MetError, PySem.W.mg_of X G m_MetError, kk_MetError, e_MetError, ty_MetError⟩
  have EK_BadShape : ∀ base, ErrK l.prog w K mg base "BadShape" "at" C_BadShape := fun base => ⟨ER_BadShape base, ⟨_, _, a_BadShape_init, t_BadShape_init, ok_BadShape_init F_BadShape_init O_BadShape no_BadShape, fun_kbn F_BadShape_init (fun _ _ _ _ _ _ _ _ => rfl)⟩⟩
  have EK_BadName : ∀ base, ErrK l.prog w K mg base "BadName" "value" C_BadName := fun base => ⟨ER_BadName base, ⟨_, _, a_BadName_init, t_BadName_init, ok_BadName_init F_BadName_init O_BadName no_BadName, fun_kbn F_BadName_init (fun _ _ _ _ _ _ _ _ => rfl)⟩⟩
  have EK_BadStore : ∀ base, ErrK l.prog w K mg base "BadStore" "value" C_BadStore := fun base => ⟨ER_BadStore base, ⟨_, _, a_BadStore_init, t_BadStore_init, ok_BadStore_init F_BadStore_init O_BadStore no_BadStore, fun_kbn F_BadStore_init (fun _ _ _ _ _ _ _ _ => rfl)⟩⟩
  have EK_BadRows : ∀ base, ErrK l.prog w K mg base "BadRows" "value" C_BadRows := fun base => ⟨ER_BadRows base, ⟨_, _, a_BadRows_init, t_BadRows_init, ok_BadRows_init F_BadRows_init O_BadRows no_BadRows, fun_kbn F_BadRows_init (fun _ _ _ _ _ _ _ _ => rfl)⟩⟩
  have EK_BadIndex : ∀ base, ErrK l.prog w K mg base "BadIndex" "value" C_BadIndex := fun base => ⟨ER_BadIndex base, ⟨_, _, a_BadIndex_init, t_BadIndex_init, ok_BadIndex_init F_BadIndex_init O_BadIndex no_BadIndex, fun_kbn F_BadIndex_init (fun _ _ _ _ _ _ _ _ => rfl)⟩⟩
  have EK_BadBlock : ∀ base, ErrK l.prog w K mg base "BadBlock" "at" C_BadBlock := fun base => ⟨ER_BadBlock base, ⟨_, _, a_BadBlock_init, t_BadBlock_init, ok_BadBlock_init F_BadBlock_init O_BadBlock no_BadBlock, fun_kbn F_BadBlock_init (fun _ _ _ _ _ _ _ _ => rfl)⟩⟩
  have EK_BadProgram : ∀ base, ErrK l.prog w K mg base "BadProgram" "value" C_BadProgram := fun base => ⟨ER_BadProgram base, ⟨_, _, a_BadProgram_init, t_BadProgram_init, ok_BadProgram_init F_BadProgram_init O_BadProgram no_BadProgram, fun_kbn F_BadProgram_init (fun _ _ _ _ _ _ _ _ => rfl)⟩⟩
  have EK_BadPattern : ∀ base, ErrK l.prog w K mg base "BadPattern" "at" C_BadPattern := fun base => ⟨ER_BadPattern base, ⟨_, _, a_BadPattern_init, t_BadPattern_init, ok_BadPattern_init F_BadPattern_init O_BadPattern no_BadPattern, fun_kbn F_BadPattern_init (fun _ _ _ _ _ _ _ _ => rfl)⟩⟩
  have EK_BadPair : ∀ base, ErrK l.prog w K mg base "BadPair" "value" C_BadPair := fun base => ⟨ER_BadPair base, ⟨_, _, a_BadPair_init, t_BadPair_init, ok_BadPair_init F_BadPair_init O_BadPair no_BadPair, fun_kbn F_BadPair_init (fun _ _ _ _ _ _ _ _ => rfl)⟩⟩
  have EK_BadMove : ∀ base, ErrK l.prog w K mg base "BadMove" "value" C_BadMove := fun base => ⟨ER_BadMove base, ⟨_, _, a_BadMove_init, t_BadMove_init, ok_BadMove_init F_BadMove_init O_BadMove no_BadMove, fun_kbn F_BadMove_init (fun _ _ _ _ _ _ _ _ => rfl)⟩⟩
  have EK_BadAsk : ∀ base, ErrK l.prog w K mg base "BadAsk" "at" C_BadAsk := fun base => ⟨ER_BadAsk base, ⟨_, _, a_BadAsk_init, t_BadAsk_init, ok_BadAsk_init F_BadAsk_init O_BadAsk no_BadAsk, fun_kbn F_BadAsk_init (fun _ _ _ _ _ _ _ _ => rfl)⟩⟩
  have EK_BadAsks : ∀ base, ErrK l.prog w K mg base "BadAsks" "value" C_BadAsks := fun base => ⟨ER_BadAsks base, ⟨_, _, a_BadAsks_init, t_BadAsks_init, ok_BadAsks_init F_BadAsks_init O_BadAsks no_BadAsks, fun_kbn F_BadAsks_init (fun _ _ _ _ _ _ _ _ => rfl)⟩⟩
  have EK_BadPlan : ∀ base, ErrK l.prog w K mg base "BadPlan" "value" C_BadPlan := fun base => ⟨ER_BadPlan base, ⟨_, _, a_BadPlan_init, t_BadPlan_init, ok_BadPlan_init F_BadPlan_init O_BadPlan no_BadPlan, fun_kbn F_BadPlan_init (fun _ _ _ _ _ _ _ _ => rfl)⟩⟩
  have EK_BadCount : ∀ base, ErrK l.prog w K mg base "BadCount" "value" C_BadCount := fun base => ⟨ER_BadCount base, ⟨_, _, a_BadCount_init, t_BadCount_init, ok_BadCount_init F_BadCount_init O_BadCount no_BadCount, fun_kbn F_BadCount_init (fun _ _ _ _ _ _ _ _ => rfl)⟩⟩
  have EK_BadText : ∀ base, ErrK l.prog w K mg base "BadText" "at" C_BadText := fun base => ⟨ER_BadText base, ⟨_, _, a_BadText_init, t_BadText_init, ok_BadText_init F_BadText_init O_BadText no_BadText, fun_kbn F_BadText_init (fun _ _ _ _ _ _ _ _ => rfl)⟩⟩
  have EK_NotPlain : ∀ base, ErrK l.prog w K mg base "NotPlain" "at" C_NotPlain := fun base => ⟨ER_NotPlain base, ⟨_, _, a_NotPlain_init, t_NotPlain_init, ok_NotPlain_init F_NotPlain_init O_NotPlain no_NotPlain, fun_kbn F_NotPlain_init (fun _ _ _ _ _ _ _ _ => rfl)⟩⟩
  have EK_Unlike : ∀ base, ErrK l.prog w K mg base "Unlike" "value" C_Unlike := fun base => ⟨ER_Unlike base, ⟨_, _, a_Unlike_init, t_Unlike_init, ok_Unlike_init F_Unlike_init O_Unlike no_Unlike, fun_kbn F_Unlike_init (fun _ _ _ _ _ _ _ _ => rfl)⟩⟩
  have TK : Kits K (fun i => [C_BadShape, C_BadName, C_BadStore, C_BadRows, C_BadIndex, C_BadBlock, C_BadProgram, C_BadPattern, C_BadPair, C_BadMove, C_BadAsk, C_BadAsks, C_BadPlan, C_BadCount, C_BadText, C_NotPlain, C_Unlike, C_NothingDone, C_TooMany, C_TooLong, C_MetError].getD i 0) := kits_ok kits
  have TE : ∀ base, Ers l.prog w K mg base (fun i => [C_BadShape, C_BadName, C_BadStore, C_BadRows, C_BadIndex, C_BadBlock, C_BadProgram, C_BadPattern, C_BadPair, C_BadMove, C_BadAsk, C_BadAsks, C_BadPlan, C_BadCount, C_BadText, C_NotPlain, C_Unlike, C_NothingDone, C_TooMany, C_TooLong, C_MetError].getD i 0) := fun base => ⟨EK_BadShape base, EK_BadName base, EK_BadStore base, EK_BadRows base, EK_BadIndex base, EK_BadBlock base, EK_BadProgram base, EK_BadPattern base, EK_BadPair base, EK_BadMove base, EK_BadAsk base, EK_BadAsks base, EK_BadPlan base, EK_BadCount base, EK_BadText base, EK_NotPlain base, EK_Unlike base, E0_NothingDone, E0_TooMany, E0_TooLong, E0_MetError⟩
  have F_law := fun_mk (st := s_law) l_law c_law k_law
  refine ⟨PySem.W.fnOf "law" "law" (defArgs s_law) (defBody s_law) (defScope s_law) .none kV_law dc_law pm_law an_law cd_law ct_law, fun s v => .of_eq rfl, fun base _ _ => ?_⟩
  have ZB : Zb mg := ⟨PySem.W.mg_none_of X G z_KeyError, PySem.W.mg_none_of X G z_IndexError, PySem.W.mg_none_of X G z_TypeError, PySem.W.mg_none_of X G z_ArithmeticError, PySem.W.mg_none_of X G z_RuntimeError, PySem.W.mg_none_of X G z_ValueError⟩
  have G_pick : Has l.prog w K mg base CX0 "_law_pick" ["_law_bag_here", "_law_many"] 1 spPick := ok_pick B D_law_pick
  exact ok_law B F_law (ok_bag B D_law_bag) (ok_odd B D_law_odd G_pick) (ok_caught B ZB (TE base) TK D_law_caught (ok_raise (TE base) D_law_raise) (ok_raise_named (TE base) D_law_raise_named)) (ok_alike B D_law_alike 3)
theorem walk {l : PySem.W.OpenLaw} {q : Program} {loose : List Str} {XP : (Str → Option Value) → Heap → Prop} {YP : World → Heap → Prop} {d : DefRec} {K : Params → PySem.W.Frag} (hn : l.most = some 63) (hdf : d.params.defaults = [])
    (hY : ∀ (w : World) (h : Heap), YP w h → (K w.params).In h)
    (F : ∀ (w : World) (mg : Str → Option Value) (fa : Addr) (h : Heap), (K w.params).In h → h.Ns mainGlobals mg → mg d.name = some (.ref fa) →
      ∃ fd : FuncData, (∀ (s : Shared) (u : Value), BindsTo s fd ⟨[u], []⟩ [("_law_script", u)]) ∧ ∀ base : Heap, (K w.params).In base → base.Ns mainGlobals mg → FnOk l.prog w (K w.params) mg base CX0 7 fa fd ["_law_script"] (spLaw (K w.params))) :
    PySem.W.WalkO q loose XP YP l.row.toRowW d [] (fun f vs => PySem.call f vs) :=
  L2.walk_of (n := 63) (k := 7) (x := "_law_script") (CX := fun _ => CX0) (sp := fun w => spLaw (K w.params)) hn (by decide) hdf ⟨rfl, by decide, by decide⟩ hY F (fun _ _ a ns hl _ hS => ⟨a, ns, rfl, hS, fun _ => rfl⟩) fun _ _ _ _ _ z => z
end Fm
open PySem PySem.W PyProof.Rows
set_option maxRecDepth 100000 in
set_option maxHeartbeats 0 in
theorem PySem.Challenge.cw_firstmet_k00_errors_holds : PySem.Challenge.rw_firstmet_k00_errors.Holds := by
  w_on; o_law; k_head; (case hw => w_witness2)
  k_fill
  refine Fm.walk (l := PySem.Challenge.rw_firstmet_k00_errors) rfl rfl (fun w h Y => PySem.W.kIn_of Y) ?F
  case F =>
    intro w mg fa h KX G hmg
    refine' Fm.all_mk KX G hmg ?z_len ?z_list ?z_tuple ?z_isinstance ?z_int ?z_range ?z_max ?z_all ?z_bool ?z_dict ?z_str ?z_enumerate ?z_KeyError ?z_IndexError ?z_TypeError ?z_ArithmeticError ?z_RuntimeError ?z_ValueError ?a_law_bag ?l_law_bag ?c_law_bag ?k_law_bag ?a_law_pick ?l_law_pick ?c_law_pick ?k_law_pick ?a_law_alike ?l_law_alike ?c_law_alike ?k_law_alike ?a_law_odd ?l_law_odd ?c_law_odd ?k_law_odd ?a_law_raise ?l_law_raise ?c_law_raise ?k_law_raise ?a_law_raise_named ?l_law_raise_named ?c_law_raise_named ?k_law_raise_named ?a_law_caught ?l_law_caught ?c_law_caught ?k_law_caught ?m_BadShape ?x_BadShape ?s_BadShape ?ga_BadShape ?gg_BadShape ?no_BadShape ?a_BadShape_init ?l_BadShape_init ?c_BadShape_init ?k_BadShape_init ?t_BadShape_init ?e_BadShape ?ty_BadShape ?kk_BadShape ?hd_BadShape ?m_BadName ?x_BadName ?s_BadName ?ga_BadName ?gg_BadName ?no_BadName ?a_BadName_init ?l_BadName_init ?c_BadName_init ?k_BadName_init ?t_BadName_init ?e_BadName ?ty_BadName ?kk_BadName ?hd_BadName ?m_BadStore ?x_BadStore ?s_BadStore ?ga_BadStore ?gg_BadStore ?no_BadStore ?a_BadStore_init ?l_BadStore_init ?c_BadStore_init ?k_BadStore_init ?t_BadStore_init ?e_BadStore ?ty_BadStore ?kk_BadStore ?hd_BadStore ?m_BadRows ?x_BadRows ?s_BadRows ?ga_BadRows ?gg_BadRows ?no_BadRows ?a_BadRows_init ?l_BadRows_init ?c_BadRows_init ?k_BadRows_init ?t_BadRows_init ?e_BadRows ?ty_BadRows ?kk_BadRows ?hd_BadRows ?m_BadIndex ?x_BadIndex ?s_BadIndex ?ga_BadIndex ?gg_BadIndex ?no_BadIndex ?a_BadIndex_init ?l_BadIndex_init ?c_BadIndex_init ?k_BadIndex_init ?t_BadIndex_init ?e_BadIndex ?ty_BadIndex ?kk_BadIndex ?hd_BadIndex ?m_BadBlock ?x_BadBlock ?s_BadBlock ?ga_BadBlock ?gg_BadBlock ?no_BadBlock ?a_BadBlock_init ?l_BadBlock_init ?c_BadBlock_init ?k_BadBlock_init ?t_BadBlock_init ?e_BadBlock ?ty_BadBlock ?kk_BadBlock ?hd_BadBlock ?m_BadProgram ?x_BadProgram ?s_BadProgram ?ga_BadProgram ?gg_BadProgram ?no_BadProgram ?a_BadProgram_init ?l_BadProgram_init ?c_BadProgram_init ?k_BadProgram_init ?t_BadProgram_init ?e_BadProgram ?ty_BadProgram ?kk_BadProgram ?hd_BadProgram ?m_BadPattern ?x_BadPattern ?s_BadPattern ?ga_BadPattern ?gg_BadPattern ?no_BadPattern ?a_BadPattern_init ?l_BadPattern_init ?c_BadPattern_init ?k_BadPattern_init ?t_BadPattern_init ?e_BadPattern ?ty_BadPattern ?kk_BadPattern ?hd_BadPattern ?m_BadPair ?x_BadPair ?s_BadPair ?ga_BadPair ?gg_BadPair ?no_BadPair ?a_BadPair_init ?l_BadPair_init ?c_BadPair_init ?k_BadPair_init ?t_BadPair_init ?e_BadPair ?ty_BadPair ?kk_BadPair ?hd_BadPair ?m_BadMove ?x_BadMove ?s_BadMove ?ga_BadMove ?gg_BadMove ?no_BadMove ?a_BadMove_init ?l_BadMove_init ?c_BadMove_init ?k_BadMove_init ?t_BadMove_init ?e_BadMove ?ty_BadMove ?kk_BadMove ?hd_BadMove ?m_BadAsk ?x_BadAsk ?s_BadAsk ?ga_BadAsk ?gg_BadAsk ?no_BadAsk ?a_BadAsk_init ?l_BadAsk_init ?c_BadAsk_init ?k_BadAsk_init ?t_BadAsk_init ?e_BadAsk ?ty_BadAsk ?kk_BadAsk ?hd_BadAsk ?m_BadAsks ?x_BadAsks ?s_BadAsks ?ga_BadAsks ?gg_BadAsks ?no_BadAsks ?a_BadAsks_init ?l_BadAsks_init ?c_BadAsks_init ?k_BadAsks_init ?t_BadAsks_init ?e_BadAsks ?ty_BadAsks ?kk_BadAsks ?hd_BadAsks ?m_BadPlan ?x_BadPlan ?s_BadPlan ?ga_BadPlan ?gg_BadPlan ?no_BadPlan ?a_BadPlan_init ?l_BadPlan_init ?c_BadPlan_init ?k_BadPlan_init ?t_BadPlan_init ?e_BadPlan ?ty_BadPlan ?kk_BadPlan ?hd_BadPlan ?m_BadCount ?x_BadCount ?s_BadCount ?ga_BadCount ?gg_BadCount ?no_BadCount ?a_BadCount_init ?l_BadCount_init ?c_BadCount_init ?k_BadCount_init ?t_BadCount_init ?e_BadCount ?ty_BadCount ?kk_BadCount ?hd_BadCount ?m_BadText ?x_BadText ?s_BadText ?ga_BadText ?gg_BadText ?no_BadText ?a_BadText_init ?l_BadText_init ?c_BadText_init ?k_BadText_init ?t_BadText_init ?e_BadText ?ty_BadText ?kk_BadText ?hd_BadText ?m_NotPlain ?x_NotPlain ?s_NotPlain ?ga_NotPlain ?gg_NotPlain ?no_NotPlain ?a_NotPlain_init ?l_NotPlain_init ?c_NotPlain_init ?k_NotPlain_init ?t_NotPlain_init ?e_NotPlain ?ty_NotPlain ?kk_NotPlain ?hd_NotPlain ?m_Unlike ?x_Unlike ?s_Unlike ?ga_Unlike ?gg_Unlike ?no_Unlike ?a_Unlike_init ?l_Unlike_init ?c_Unlike_init ?k_Unlike_init ?t_Unlike_init ?e_Unlike ?ty_Unlike ?kk_Unlike ?hd_Unlike ?m_NothingDone ?z0_NothingDone ?kk_NothingDone ?e_NothingDone ?ty_NothingDone ?m_TooMany ?z0_TooMany ?kk_TooMany ?e_TooMany ?ty_TooMany ?m_TooLong ?z0_TooLong ?kk_TooLong ?e_TooLong ?ty_TooLong ?m_MetError ?z0_MetError ?kk_MetError ?e_MetError ?ty_MetError ?kits ?a_law ?l_law ?c_law ?k_law
    (case z_len => k_is)
    (case z_list => k_is)
    (case z_tuple => k_is)
    (case z_isinstance => k_is)
    (case z_int => k_is)
    (case z_range => k_is)
    (case z_max => k_is)
    (case z_all => k_is)
    (case z_bool => k_is)
    (case z_dict => k_is)
    (case z_str => k_is)
    (case z_enumerate => k_is)
    (case z_KeyError => k_is)
    (case z_IndexError => k_is)
    (case z_TypeError => k_is)
    (case z_ArithmeticError => k_is)
    (case z_RuntimeError => k_is)
    (case z_ValueError => k_is)
    (case a_law_bag => k_is)
    (case l_law_bag => k_is)
    (case c_law_bag => k_is)
    (case k_law_bag => k_is)
    (case a_law_pick => k_is)
    (case l_law_pick => k_is)
    (case c_law_pick => k_is)
    (case k_law_pick => k_is)
    (case a_law_alike => k_is)
    (case l_law_alike => k_is)
    (case c_law_alike => k_is)
    (case k_law_alike => k_is)
    (case a_law_odd => k_is)
    (case l_law_odd => k_is)
    (case c_law_odd => k_is)
    (case k_law_odd => k_is)
    (case a_law_raise => k_is)
    (case l_law_raise => k_is)
    (case c_law_raise => k_is)
    (case k_law_raise => k_is)
    (case a_law_raise_named => k_is)
    (case l_law_raise_named => k_is)
    (case c_law_raise_named => k_is)
    (case k_law_raise_named => k_is)
    (case a_law_caught => k_is)
    (case l_law_caught => k_is)
    (case c_law_caught => k_is)
    (case k_law_caught => k_is)
    (case m_BadShape => k_is)
    (case x_BadShape => k_is)
    (case s_BadShape => k_is)
    (case ga_BadShape => k_is)
    (case gg_BadShape => k_is)
    (case no_BadShape => k_is)
    (case a_BadShape_init => k_is)
    (case l_BadShape_init => k_is)
    (case c_BadShape_init => k_is)
    (case k_BadShape_init => k_is)
    (case t_BadShape_init => k_is)
    (case e_BadShape => k_is)
    (case ty_BadShape => k_is)
    (case kk_BadShape => k_is)
    (case hd_BadShape => k_is)
    (case m_BadName => k_is)
    (case x_BadName => k_is)
    (case s_BadName => k_is)
    (case ga_BadName => k_is)
    (case gg_BadName => k_is)
    (case no_BadName => k_is)
    (case a_BadName_init => k_is)
    (case l_BadName_init => k_is)
    (case c_BadName_init => k_is)
    (case k_BadName_init => k_is)
    (case t_BadName_init => k_is)
    (case e_BadName => k_is)
    (case ty_BadName => k_is)
    (case kk_BadName => k_is)
    (case hd_BadName => k_is)
    (case m_BadStore => k_is)
    (case x_BadStore => k_is)
    (case s_BadStore => k_is)
    (case ga_BadStore => k_is)
    (case gg_BadStore => k_is)
    (case no_BadStore => k_is)
    (case a_BadStore_init => k_is)
    (case l_BadStore_init => k_is)
    (case c_BadStore_init => k_is)
    (case k_BadStore_init => k_is)
    (case t_BadStore_init => k_is)
    (case e_BadStore => k_is)
    (case ty_BadStore => k_is)
    (case kk_BadStore => k_is)
    (case hd_BadStore => k_is)
    (case m_BadRows => k_is)
    (case x_BadRows => k_is)
    (case s_BadRows => k_is)
    (case ga_BadRows => k_is)
    (case gg_BadRows => k_is)
    (case no_BadRows => k_is)
    (case a_BadRows_init => k_is)
    (case l_BadRows_init => k_is)
    (case c_BadRows_init => k_is)
    (case k_BadRows_init => k_is)
    (case t_BadRows_init => k_is)
    (case e_BadRows => k_is)
    (case ty_BadRows => k_is)
    (case kk_BadRows => k_is)
    (case hd_BadRows => k_is)
    (case m_BadIndex => k_is)
    (case x_BadIndex => k_is)
    (case s_BadIndex => k_is)
    (case ga_BadIndex => k_is)
    (case gg_BadIndex => k_is)
    (case no_BadIndex => k_is)
    (case a_BadIndex_init => k_is)
    (case l_BadIndex_init => k_is)
    (case c_BadIndex_init => k_is)
    (case k_BadIndex_init => k_is)
    (case t_BadIndex_init => k_is)
    (case e_BadIndex => k_is)
    (case ty_BadIndex => k_is)
    (case kk_BadIndex => k_is)
    (case hd_BadIndex => k_is)
    (case m_BadBlock => k_is)
    (case x_BadBlock => k_is)
    (case s_BadBlock => k_is)
    (case ga_BadBlock => k_is)
    (case gg_BadBlock => k_is)
    (case no_BadBlock => k_is)
    (case a_BadBlock_init => k_is)
    (case l_BadBlock_init => k_is)
    (case c_BadBlock_init => k_is)
    (case k_BadBlock_init => k_is)
    (case t_BadBlock_init => k_is)
    (case e_BadBlock => k_is)
    (case ty_BadBlock => k_is)
    (case kk_BadBlock => k_is)
    (case hd_BadBlock => k_is)
    (case m_BadProgram => k_is)
    (case x_BadProgram => k_is)
    (case s_BadProgram => k_is)
    (case ga_BadProgram => k_is)
    (case gg_BadProgram => k_is)
    (case no_BadProgram => k_is)
    (case a_BadProgram_init => k_is)
    (case l_BadProgram_init => k_is)
    (case c_BadProgram_init => k_is)
    (case k_BadProgram_init => k_is)
    (case t_BadProgram_init => k_is)
    (case e_BadProgram => k_is)
    (case ty_BadProgram => k_is)
    (case kk_BadProgram => k_is)
    (case hd_BadProgram => k_is)
    (case m_BadPattern => k_is)
    (case x_BadPattern => k_is)
    (case s_BadPattern => k_is)
    (case ga_BadPattern => k_is)
    (case gg_BadPattern => k_is)
    (case no_BadPattern => k_is)
    (case a_BadPattern_init => k_is)
    (case l_BadPattern_init => k_is)
    (case c_BadPattern_init => k_is)
    (case k_BadPattern_init => k_is)
    (case t_BadPattern_init => k_is)
    (case e_BadPattern => k_is)
    (case ty_BadPattern => k_is)
    (case kk_BadPattern => k_is)
    (case hd_BadPattern => k_is)
    (case m_BadPair => k_is)
    (case x_BadPair => k_is)
    (case s_BadPair => k_is)
    (case ga_BadPair => k_is)
    (case gg_BadPair => k_is)
    (case no_BadPair => k_is)
    (case a_BadPair_init => k_is)
    (case l_BadPair_init => k_is)
    (case c_BadPair_init => k_is)
    (case k_BadPair_init => k_is)
    (case t_BadPair_init => k_is)
    (case e_BadPair => k_is)
    (case ty_BadPair => k_is)
    (case kk_BadPair => k_is)
    (case hd_BadPair => k_is)
    (case m_BadMove => k_is)
    (case x_BadMove => k_is)
    (case s_BadMove => k_is)
    (case ga_BadMove => k_is)
    (case gg_BadMove => k_is)
    (case no_BadMove => k_is)
    (case a_BadMove_init => k_is)
    (case l_BadMove_init => k_is)
    (case c_BadMove_init => k_is)
    (case k_BadMove_init => k_is)
    (case t_BadMove_init => k_is)
    (case e_BadMove => k_is)
    (case ty_BadMove => k_is)
    (case kk_BadMove => k_is)
    (case hd_BadMove => k_is)
    (case m_BadAsk => k_is)
    (case x_BadAsk => k_is)
    (case s_BadAsk => k_is)
    (case ga_BadAsk => k_is)
    (case gg_BadAsk => k_is)
    (case no_BadAsk => k_is)
    (case a_BadAsk_init => k_is)
    (case l_BadAsk_init => k_is)
    (case c_BadAsk_init => k_is)
    (case k_BadAsk_init => k_is)
    (case t_BadAsk_init => k_is)
    (case e_BadAsk => k_is)
    (case ty_BadAsk => k_is)
    (case kk_BadAsk => k_is)
    (case hd_BadAsk => k_is)
    (case m_BadAsks => k_is)
    (case x_BadAsks => k_is)
    (case s_BadAsks => k_is)
    (case ga_BadAsks => k_is)
    (case gg_BadAsks => k_is)
    (case no_BadAsks => k_is)
    (case a_BadAsks_init => k_is)
    (case l_BadAsks_init => k_is)
    (case c_BadAsks_init => k_is)
    (case k_BadAsks_init => k_is)
    (case t_BadAsks_init => k_is)
    (case e_BadAsks => k_is)
    (case ty_BadAsks => k_is)
    (case kk_BadAsks => k_is)
    (case hd_BadAsks => k_is)
    (case m_BadPlan => k_is)
    (case x_BadPlan => k_is)
    (case s_BadPlan => k_is)
    (case ga_BadPlan => k_is)
    (case gg_BadPlan => k_is)
    (case no_BadPlan => k_is)
    (case a_BadPlan_init => k_is)
    (case l_BadPlan_init => k_is)
    (case c_BadPlan_init => k_is)
    (case k_BadPlan_init => k_is)
    (case t_BadPlan_init => k_is)
    (case e_BadPlan => k_is)
    (case ty_BadPlan => k_is)
    (case kk_BadPlan => k_is)
    (case hd_BadPlan => k_is)
    (case m_BadCount => k_is)
    (case x_BadCount => k_is)
    (case s_BadCount => k_is)
    (case ga_BadCount => k_is)
    (case gg_BadCount => k_is)
    (case no_BadCount => k_is)
    (case a_BadCount_init => k_is)
    (case l_BadCount_init => k_is)
    (case c_BadCount_init => k_is)
    (case k_BadCount_init => k_is)
    (case t_BadCount_init => k_is)
    (case e_BadCount => k_is)
    (case ty_BadCount => k_is)
    (case kk_BadCount => k_is)
    (case hd_BadCount => k_is)
    (case m_BadText => k_is)
    (case x_BadText => k_is)
    (case s_BadText => k_is)
    (case ga_BadText => k_is)
    (case gg_BadText => k_is)
    (case no_BadText => k_is)
    (case a_BadText_init => k_is)
    (case l_BadText_init => k_is)
    (case c_BadText_init => k_is)
    (case k_BadText_init => k_is)
    (case t_BadText_init => k_is)
    (case e_BadText => k_is)
    (case ty_BadText => k_is)
    (case kk_BadText => k_is)
    (case hd_BadText => k_is)
    (case m_NotPlain => k_is)
    (case x_NotPlain => k_is)
    (case s_NotPlain => k_is)
    (case ga_NotPlain => k_is)
    (case gg_NotPlain => k_is)
    (case no_NotPlain => k_is)
    (case a_NotPlain_init => k_is)
    (case l_NotPlain_init => k_is)
    (case c_NotPlain_init => k_is)
    (case k_NotPlain_init => k_is)
    (case t_NotPlain_init => k_is)
    (case e_NotPlain => k_is)
    (case ty_NotPlain => k_is)
    (case kk_NotPlain => k_is)
    (case hd_NotPlain => k_is)
    (case m_Unlike => k_is)
    (case x_Unlike => k_is)
    (case s_Unlike => k_is)
    (case ga_Unlike => k_is)
    (case gg_Unlike => k_is)
    (case no_Unlike => k_is)
    (case a_Unlike_init => k_is)
    (case l_Unlike_init => k_is)
    (case c_Unlike_init => k_is)
    (case k_Unlike_init => k_is)
    (case t_Unlike_init => k_is)
    (case e_Unlike => k_is)
    (case ty_Unlike => k_is)
    (case kk_Unlike => k_is)
    (case hd_Unlike => k_is)
    (case m_NothingDone => k_is)
    (case z0_NothingDone => k_exc)
    (case kk_NothingDone => k_is)
    (case e_NothingDone => k_is)
    (case ty_NothingDone => k_is)
    (case m_TooMany => k_is)
    (case z0_TooMany => k_exc)
    (case kk_TooMany => k_is)
    (case e_TooMany => k_is)
    (case ty_TooMany => k_is)
    (case m_TooLong => k_is)
    (case z0_TooLong => k_exc)
    (case kk_TooLong => k_is)
    (case e_TooLong => k_is)
    (case ty_TooLong => k_is)
    (case m_MetError => k_is)
    (case z0_MetError => k_exc)
    (case kk_MetError => k_is)
    (case e_MetError => k_is)
    (case ty_MetError => k_is)
    (case kits => kernel_rfl)
    (case a_law => k_is)
    (case l_law => k_is)
    (case c_law => k_is)
    (case k_law => k_is)
