import PyProof.Rows.All
import Wide.All
import OpenK.AllK
import Wide.FinOn
import KE.KStateDown
import HandS.ForMost
import HandS.Property
import HandS.Head0
import HandS.Head1
import HandS.Head2
import HandS.HeadEnd
import HandS.HeadHook1
import HandS.HeadHook2
import HandS.HeadHook3
import HandS.HeadHook4
import HandS.HeadWalk
import PyProof.EqAt
import PyProof.EqKinds
import PyProof.TupleCall
import HandS.Lambda
import HandS.Star
import HandS.Style
import HandS.Zip
import HandS.Conv
import HandS.More
import HandS.DictComp
import HandS.SortInts
import HandS.Iter
import HandS.Wide
import HandS.WideBits
import HandS.Comp
import HandS.Nested
import KE.SortKeyHeap
import HandS.Exc
import HandS.ExcValue
import KE.LtData
import PyProof.WalksS
import PyProof.ConsumeS
import KE.SortData
import HandS.Dict
import HandS.NoneIn
import HandS.ReplaceLit
import HandS.ReplaceList
import HandS.StrMore
import HandS.Codes
import PySem.Challenge.RW_listwindow_k60_whole_distances_and_plans
set_option Elab.async false
set_option linter.all false
set_option maxRecDepth 100000
namespace Lw
open PySem PySem.Spec PyProof.Rows L2
def topS (i : Nat) : Stmt := PySem.Challenge.pw_listwindow_k60_whole_distances_and_plans.main.body.getD i (.Pass ⟨0, 0, 0, 0⟩)
end Lw
set_option Elab.async false
set_option linter.all false
set_option maxRecDepth 100000
set_option maxHeartbeats 0
/-! # The head: what the top leaves, looked at by one kernel run -/
namespace Hd
open PySem PySem.Spec PyProof.Rows L2
abbrev top (i : Nat) : Stmt := Lw.topS i
/-! ### the objects that are looked at -/
abbrev Gt := Addr → Option Obj
def refL : List Value → List Addr
  | [] => []
  | .ref a :: r => a :: refL r
  | _ :: r => refL r
/-- the objects of a list of addresses, one after the other -/
def grab {α : Type} (g : Gt) : List Addr → PySem.W.Frag → (PySem.W.Frag → α) → α
  | [], acc, k => k acc
  | a :: r, acc, k => HandSHeadRun.frNat a fun a => match g a with
    | none => grab g r acc k
    | some o => grab g r ((a, o) :: acc) k
/-- what the objects refer to, by f -/
def nexts (f : Obj → List Addr) : PySem.W.Frag → List Addr
  | [] => []
  | p :: r => f p.2 ++ nexts f r
def codeR : Obj → List Addr
  | ⟨_, _, .func fd, _⟩ => refL [fd.code]
  | _ => []
def nsR : Obj → List Addr
  | ⟨_, _, .cls cd, _⟩ => [cd.ns]
  | _ => []
def valR : Obj → List Addr
  | ⟨_, _, .dict es _, _⟩ => refL (es.toList.map (·.val))
  | _ => []
def fldR : Obj → List Addr
  | ⟨_, _, .fields vs, _⟩ => refL vs.toList
  | _ => []
def kf {α : Type} (g : Gt) (xs cs : List Str) (k : PySem.W.Frag → α) : α :=
  grab g [mainGlobals] [] fun K0 => grab g (xs.map (He.ga K0)) [] fun K1 => grab g (cs.map (He.ga K0)) [] fun K2 => grab g (nexts nsR K2) [] fun K3 => grab g (nexts valR K3) [] fun K4 => grab g (nexts fldR K4) [] fun K5 =>
    grab g (nexts codeR K1) [] fun K6 => grab g (nexts codeR K4) [] fun K7 => grab g (nexts codeR K5) [] fun K8 => k (K0 ++ (K2 ++ (K3 ++ (K4 ++ (K5 ++ (K7 ++ (K8 ++ (K1 ++ K6))))))))
theorem grab_in {α : Type} {h : Heap} : ∀ (as : List Addr) (acc : PySem.W.Frag) (k : PySem.W.Frag → α), (∀ a o, (a, o) ∈ acc → h.get? a = some o) → ∃ K : PySem.W.Frag, (∀ a o, (a, o) ∈ K → h.get? a = some o) ∧ grab h.get? as acc k = k K
  | [], acc, k, ha => ⟨acc, ha, rfl⟩
  | a :: r, acc, k, ha => by
    unfold grab
    rw [HandSHeadRun.frNat_eq]
    cases q : h.get? a with
    | none => exact grab_in r acc k ha
    | some o =>
      refine grab_in r ((a, o) :: acc) k fun b u hb => ?_
      rcases List.mem_cons.mp hb with e | hb
      · cases e
        exact q
      · exact ha b u hb
theorem kf_in {α : Type} {h : Heap} (xs cs : List Str) (k : PySem.W.Frag → α) : ∃ K : PySem.W.Frag, K.In h ∧ kf h.get? xs cs k = k K := by
  unfold kf
  obtain ⟨K0, h0, e0⟩ := grab_in (h := h) [mainGlobals] [] (fun K0 => grab h.get? (xs.map (He.ga K0)) [] fun K1 => grab h.get? (cs.map (He.ga K0)) [] fun K2 => grab h.get? (nexts nsR K2) [] fun K3 => grab h.get? (nexts valR K3) [] fun K4 => grab h.get? (nexts fldR K4) [] fun K5 =>
    grab h.get? (nexts codeR K1) [] fun K6 => grab h.get? (nexts codeR K4) [] fun K7 => grab h.get? (nexts codeR K5) [] fun K8 => k (K0 ++ (K2 ++ (K3 ++ (K4 ++ (K5 ++ (K7 ++ (K8 ++ (K1 ++ K6))))))))) (fun a o z => by cases z)
  rw [e0]
  obtain ⟨K1, h1, e1⟩ := grab_in (h := h) (xs.map (He.ga K0)) [] (fun K1 => grab h.get? (cs.map (He.ga K0)) [] fun K2 => grab h.get? (nexts nsR K2) [] fun K3 => grab h.get? (nexts valR K3) [] fun K4 => grab h.get? (nexts fldR K4) [] fun K5 =>
    grab h.get? (nexts codeR K1) [] fun K6 => grab h.get? (nexts codeR K4) [] fun K7 => grab h.get? (nexts codeR K5) [] fun K8 => k (K0 ++ (K2 ++ (K3 ++ (K4 ++ (K5 ++ (K7 ++ (K8 ++ (K1 ++ K6))))))))) (fun a o z => by cases z)
  rw [e1]
  obtain ⟨K2, h2, e2⟩ := grab_in (h := h) (cs.map (He.ga K0)) [] (fun K2 => grab h.get? (nexts nsR K2) [] fun K3 => grab h.get? (nexts valR K3) [] fun K4 => grab h.get? (nexts fldR K4) [] fun K5 =>
    grab h.get? (nexts codeR K1) [] fun K6 => grab h.get? (nexts codeR K4) [] fun K7 => grab h.get? (nexts codeR K5) [] fun K8 => k (K0 ++ (K2 ++ (K3 ++ (K4 ++ (K5 ++ (K7 ++ (K8 ++ (K1 ++ K6))))))))) (fun a o z => by cases z)
  rw [e2]
  obtain ⟨K3, h3, e3⟩ := grab_in (h := h) (nexts nsR K2) [] (fun K3 => grab h.get? (nexts valR K3) [] fun K4 => grab h.get? (nexts fldR K4) [] fun K5 =>
    grab h.get? (nexts codeR K1) [] fun K6 => grab h.get? (nexts codeR K4) [] fun K7 => grab h.get? (nexts codeR K5) [] fun K8 => k (K0 ++ (K2 ++ (K3 ++ (K4 ++ (K5 ++ (K7 ++ (K8 ++ (K1 ++ K6))))))))) (fun a o z => by cases z)
  rw [e3]
  obtain ⟨K4, h4, e4⟩ := grab_in (h := h) (nexts valR K3) [] (fun K4 => grab h.get? (nexts fldR K4) [] fun K5 =>
    grab h.get? (nexts codeR K1) [] fun K6 => grab h.get? (nexts codeR K4) [] fun K7 => grab h.get? (nexts codeR K5) [] fun K8 => k (K0 ++ (K2 ++ (K3 ++ (K4 ++ (K5 ++ (K7 ++ (K8 ++ (K1 ++ K6))))))))) (fun a o z => by cases z)
  rw [e4]
  obtain ⟨K5, h5, e5⟩ := grab_in (h := h) (nexts fldR K4) [] (fun K5 =>
    grab h.get? (nexts codeR K1) [] fun K6 => grab h.get? (nexts codeR K4) [] fun K7 => grab h.get? (nexts codeR K5) [] fun K8 => k (K0 ++ (K2 ++ (K3 ++ (K4 ++ (K5 ++ (K7 ++ (K8 ++ (K1 ++ K6))))))))) (fun a o z => by cases z)
  rw [e5]
  obtain ⟨K6, h6, e6⟩ := grab_in (h := h) (nexts codeR K1) [] (fun K6 => grab h.get? (nexts codeR K4) [] fun K7 => grab h.get? (nexts codeR K5) [] fun K8 => k (K0 ++ (K2 ++ (K3 ++ (K4 ++ (K5 ++ (K7 ++ (K8 ++ (K1 ++ K6))))))))) (fun a o z => by cases z)
  rw [e6]
  obtain ⟨K7, h7, e7⟩ := grab_in (h := h) (nexts codeR K4) [] (fun K7 => grab h.get? (nexts codeR K5) [] fun K8 => k (K0 ++ (K2 ++ (K3 ++ (K4 ++ (K5 ++ (K7 ++ (K8 ++ (K1 ++ K6))))))))) (fun a o z => by cases z)
  rw [e7]
  obtain ⟨K8, h8, e8⟩ := grab_in (h := h) (nexts codeR K5) [] (fun K8 => k (K0 ++ (K2 ++ (K3 ++ (K4 ++ (K5 ++ (K7 ++ (K8 ++ (K1 ++ K6))))))))) (fun a o z => by cases z)
  rw [e8]
  refine ⟨_, fun a o e => ?_, rfl⟩
  have hm : (a, o) ∈ K0 ++ (K2 ++ (K3 ++ (K4 ++ (K5 ++ (K7 ++ (K8 ++ (K1 ++ K6))))))) := He.lookup_mem e
  simp only [List.mem_append] at hm
  rcases hm with z | z | z | z | z | z | z | z | z
  · exact h0 a o z
  · exact h2 a o z
  · exact h3 a o z
  · exact h4 a o z
  · exact h5 a o z
  · exact h7 a o z
  · exact h8 a o z
  · exact h1 a o z
  · exact h6 a o z
/-! ### defs by where they stand -/
structure DZ where
  ad : PySem.W.Frag → Addr
  name : Str
  qual : Str
  st : Stmt
def prA (K : PySem.W.Frag) (c m : Str) : Addr := match PySem.W.recIn K (He.ma K (He.ga K c) m) "property" with
  | some (.ref g :: _) => g
  | _ => 0
def dz (x : Str) (i : Nat) : DZ := ⟨fun K => He.ga K x, x, x, top i⟩
def dm (c m q : Str) (i j : Nat) : DZ := ⟨fun K => He.ma K (He.ga K c) m, m, q, inClass (top i) j⟩
def dp (c m q : Str) (i j : Nat) : DZ := ⟨fun K => prA K c m, m, q, inClass (top i) j⟩
def fz (K : PySem.W.Frag) (a : Addr) : He.FnV := match K.lookup a with
  | some ⟨_, _, .func fd, _⟩ => some (fd.name, fd.qualname, fd.params, fd.body, fd.scope, fd.globals, fd.closure, fd.defaults, fd.builtins)
  | _ => none
def DZ.val (d : DZ) : He.FnV := some (d.name, d.qual, defArgs d.st, .stmts (defBody d.st), defScope d.st, mainGlobals, [], .none, builtinsNs)
def cdB (K : PySem.W.Frag) (d : DZ) : Bool := PySem.W.keepIn K (.ref (d.ad K)) && (match K.lookup (d.ad K) with
  | some ⟨_, _, .func fd, _⟩ => PySem.W.codeIn K fd.code d.qual
  | _ => false)
theorem fun_of {K : PySem.W.Frag} {d : DZ} (e : fz K (d.ad K) = d.val) (c : cdB K d = true) : ∃ fd, Fun K d.name d.qual d.st (d.ad K) fd := by
  obtain ⟨c0, c1⟩ := He.ba c
  unfold fz at e
  cases q : K.lookup (d.ad K) with
  | none =>
    rw [q] at e
    cases e
  | some o =>
    obtain ⟨oc, od, dt, osl⟩ := o
    rw [q] at c1 e
    cases dt with
    | func fd =>
      obtain ⟨n1, n2, n3, n4, n5, n6, n7, n8, n9, n10, n11, n12, n13, n14, n15⟩ := fd
      have e2 : (some (n1, n2, n3, n4, n5, n6, n7, n8, n15) : He.FnV) = some (d.name, d.qual, defArgs d.st, .stmts (defBody d.st), defScope d.st, mainGlobals, [], .none, builtinsNs) := e
      simp only [Option.some.injEq, Prod.mk.injEq] at e2
      obtain ⟨h1, h2, h3, h4, h5, h6, h7, h8, h9⟩ := e2
      subst h1 h2 h3 h4 h5 h6 h7 h8 h9
      exact ⟨_, ⟨⟨oc, od, n9, n10, n11, n12, n13, n14, osl, rfl, q, c1⟩, c0⟩⟩
    | _ => cases c1
/-! ### more facts -/
def prB (K : PySem.W.Frag) (c m : Str) : Bool := He.eqO (PySem.W.findIn K (.ref (He.ga K c)) m) (some (some (.ref (He.ma K (He.ga K c) m)))) && (He.eqO (PySem.W.specialIn K (.ref (He.ma K (He.ga K c) m)) "__get__") (some (some (.builtin "property.__get__"))) &&
  (decide (PySem.W.takesIn K (.ref (He.ma K (He.ga K c) m)) = some true) && (match PySem.W.recIn K (He.ma K (He.ga K c) m) "property" with
    | some (.ref _ :: _) => true
    | _ => false)))
theorem prB_ok {K : PySem.W.Frag} {c m : Str} (h : prB K c m = true) : PropOf K (He.ga K c) m (He.ma K (He.ga K c) m) (prA K c m) := by
  obtain ⟨h1, h⟩ := He.ba h
  obtain ⟨h2, h⟩ := He.ba h
  obtain ⟨h3, h4⟩ := He.ba h
  refine ⟨He.eqO_ok h1, He.eqO_ok h2, of_decide_eq_true h3, ?_⟩
  unfold prA
  cases q : PySem.W.recIn K (He.ma K (He.ga K c) m) "property" with
  | none =>
    rw [q] at h4
    cases h4
  | some l =>
    rw [q] at h4
    cases l with
    | nil => cases h4
    | cons v r =>
      cases v with
      | ref g => exact ⟨r, rfl⟩
      | _ => cases h4
def spB (K : PySem.W.Frag) (c m : Str) : Bool := He.eqO (PySem.W.findIn K (.ref (He.ga K c)) m) (some (some (.ref (He.ma K (He.ga K c) m)))) && (PySem.W.isFn K (.ref (He.ma K (He.ga K c) m)) && PySem.W.fnIn K (He.ma K (He.ga K c) m))
/-! ### the Hook -/
abbrev Al : Type := (Bool × List He.FnV × List (Option (List (Option (Str × Int)))))
def look (fa : List He.Fa) (fn : List DZ) (ts : List He.Tab) (tf : List He.Defn) (ex : PySem.W.Frag → Bool) (g : Gt) (K : PySem.W.Frag) : Al :=
  ((fa.all fun f => f.ok K) && ((fn.all fun d => cdB K d) && (ex K && (tf.all fun p => PySem.W.codeHdIn K (He.cT K p).1 (He.cT K p).2 && ((K.lookup (He.cT K p).2).isNone && (match g (He.cT K p).2 with
    | some o => He.emptyTab o
    | none => false))))), fn.map fun d => fz K (d.ad K), ts.map fun t => He.dicW K (t.1 K))
def want (fn : List DZ) (ts : List He.Tab) (w : World) : Al := (true, fn.map DZ.val, ts.map fun t => some (He.keysIn w.params t.2))
structure Says (fa : List He.Fa) (fn : List DZ) (ts : List He.Tab) (tf : List He.Defn) (ex : PySem.W.Frag → Bool) (w : World) (h : Heap) (K : PySem.W.Frag) : Prop where
  fact : ∀ f ∈ fa, f.ok K = true
  def_ : ∀ d ∈ fn, ∃ fd, Fun K d.name d.qual d.st (d.ad K) fd
  tab : ∀ t ∈ ts, He.dicW K (t.1 K) = some (He.keysIn w.params t.2)
  more : ex K = true
  hd : ∀ p ∈ tf, PySem.W.codeHdIn K (He.cT K p).1 (He.cT K p).2 = true
  out : ∀ p ∈ tf, K.lookup (He.cT K p).2 = none
  empty : ∀ p ∈ tf, h.get? (He.cT K p).2 = some { cls := .none, data := .fields #[] }
theorem map_eq_at {α β : Type} {f g : α → β} : ∀ {l : List α}, l.map f = l.map g → ∀ x ∈ l, f x = g x
  | a :: l, e, x, hx => by
    rw [List.map_cons, List.map_cons, List.cons.injEq] at e
    rcases List.mem_cons.mp hx with rfl | hx
    · exact e.1
    · exact map_eq_at e.2 x hx
theorem says_of {fa : List He.Fa} {fn : List DZ} {ts : List He.Tab} {tf : List He.Defn} {ex : PySem.W.Frag → Bool} {w : World} {h : Heap} {K : PySem.W.Frag} (e : look fa fn ts tf ex h.get? K = want fn ts w) : Says fa fn ts tf ex w h K := by
  have e1 := congrArg (fun z : Al => z.1) e
  have e2 : fn.map (fun d => fz K (d.ad K)) = fn.map DZ.val := congrArg (fun z : Al => z.2.1) e
  have e3 : ts.map (fun t => He.dicW K (t.1 K)) = ts.map fun t => some (He.keysIn w.params t.2) := congrArg (fun z : Al => z.2.2) e
  obtain ⟨a1, e1⟩ := He.ba e1
  obtain ⟨a2, e1⟩ := He.ba e1
  obtain ⟨a3, a4⟩ := He.ba e1
  have key : ∀ p ∈ tf, PySem.W.codeHdIn K (He.cT K p).1 (He.cT K p).2 = true ∧ K.lookup (He.cT K p).2 = none ∧ h.get? (He.cT K p).2 = some { cls := .none, data := .fields #[] } := fun p hp => by
    obtain ⟨b1, b2⟩ := He.ba (List.all_eq_true.mp a4 p hp)
    obtain ⟨b2, b3⟩ := He.ba b2
    refine ⟨b1, Option.isNone_iff_eq_none.mp b2, ?_⟩
    cases q : h.get? (He.cT K p).2 with
    | none =>
      rw [q] at b3
      cases b3
    | some o =>
      rw [q] at b3
      rw [He.emptyTab_eq b3]
  exact ⟨fun f hf => List.all_eq_true.mp a1 f hf, fun d hd => fun_of (map_eq_at e2 d hd) (List.all_eq_true.mp a2 d hd), fun t ht => map_eq_at e3 t ht, a3, fun p hp => (key p hp).1, fun p hp => (key p hp).2.1, fun p hp => (key p hp).2.2⟩
def hook (xs cs : List Str) (fa : List He.Fa) (fn : List DZ) (ts : List He.Tab) (tf : List He.Defn) (ex : PySem.W.Frag → Bool) : PySem.W.Hook where
  α := Al
  obs := fun s => kf s.heap.get? xs cs fun K => look fa fn ts tf ex s.heap.get? K
  val := fun w => want fn ts w
  says := fun w h => ∃ K : PySem.W.Frag, K.In h ∧ Says fa fn ts tf ex w h K
  of := fun w s e => by
    obtain ⟨K, hK, eK⟩ := kf_in (h := s.heap) xs cs fun K => look fa fn ts tf ex s.heap.get? K
    exact ⟨K, hK, says_of (eK.symm.trans e)⟩
  keeps := fun _ _ _ ⟨K, hK, c⟩ k => ⟨K, PySem.W.Frag.In.keeps hK k, ⟨c.fact, c.def_, c.tab, c.more, c.hd, c.out, fun p hp => k _ _ (c.empty p hp)⟩⟩
/-! ### this law's -/
def loose0 : List PySem.Str := ["_wall", "__name__", "WindowError", "InvalidNumber", "InvalidRow", "InvalidColumn", "InvalidSorting", "InvalidOrder", "InvalidFilters", "InvalidRows", "InvalidPosition", "InvalidMarks"]
def loose1 : List PySem.Str := ["InvalidValue", "InvalidName", "UnknownPlace", "InvalidDeed", "need_column", "need_row", "are_keys", "is_sorting_of", "need_sorting", "need_order", "after_click", "OPEN"]
def loose2 : List PySem.Str := ["need_filters", "lets", "lets_all", "rows_let", "open_filters", "let_rows", "with_only", "CLICK", "RANGE", "check_there", "are_marks", "check_marks"]
def loose3 : List PySem.Str := ["check_marks_there", "check_marks_of", "check_clicks", "places_of", "marked_in", "borders_in", "blocks_of", "cost_in", "check_state", "marked", "cost", "numbers_of_covers"]
def loose4 : List PySem.Str := ["block_cover", "cover_in", "clicks_in", "need_width", "all_sortings", "after_clicks", "order_in", "is_sorting", "sortings", "clicked", "order_of", "way_between"]
def loose5 : List PySem.Str := ["clicks_of_front", "need_two", "distance", "first_way", "showing", "first_of", "nearest", "cheapest_in", "costs_by_sorting", "cheapest_sorting", "one_stop", "need_from"]
def loose6 : List PySem.Str := ["need_rooms", "need_scrolls", "between", "room_for", "room_of", "after_turn", "scrolls_after", "turned_by", "clipped", "first_double", "folded_behind", "values_in"]
def loose7 : List PySem.Str := ["shown_in", "groups_in", "lines_in", "View", "LETTERS", "MOST_LETTERS", "is_name", "require_names", "require_unlike", "House", "visited", "trail_behind"]
def loose8 : List PySem.Str := ["require_trail", "trail_after", "PARTS", "MARKING", "Spot", "Moment", "need_window", "first_moment", "need_deed", "moment_at", "clicked_on", "turned_moment"]
def loose9 : List PySem.Str := ["clipped_moment", "moment_after", "moments_of", "last_moment", "last_or_none", "SORT", "spot_after", "heads", "way_to_order", "need_plain", "plan_by", "need_goal"]
def loose10 : List PySem.Str := ["plan", "judge_plan", "Table", "_law_open", "_law_draw", "_law_rows", "_law_clicks", "_law_keys", "_law_ways", "_law_stop", "_law_stops_right", "_law_plan_right"]
def loose11 : List PySem.Str := ["_law_right"]
def loose : List PySem.Str := loose0 ++ (loose1 ++ (loose2 ++ (loose3 ++ (loose4 ++ (loose5 ++ (loose6 ++ (loose7 ++ (loose8 ++ (loose9 ++ (loose10 ++ (loose11)))))))))))
def fnames0 : List PySem.Str := ["need_column", "need_row", "are_keys", "is_sorting_of", "need_sorting", "need_order", "after_click", "need_filters", "lets", "lets_all", "rows_let", "open_filters"]
def fnames1 : List PySem.Str := ["let_rows", "check_there", "are_marks", "check_marks", "check_marks_there", "check_marks_of", "check_clicks", "places_of", "marked_in", "borders_in", "blocks_of", "cost_in"]
def fnames2 : List PySem.Str := ["check_state", "marked", "cost", "numbers_of_covers", "block_cover", "cover_in", "clicks_in", "need_width", "all_sortings", "after_clicks", "order_in", "is_sorting"]
def fnames3 : List PySem.Str := ["sortings", "clicked", "order_of", "way_between", "clicks_of_front", "need_two", "distance", "first_way", "showing", "first_of", "nearest", "cheapest_in"]
def fnames4 : List PySem.Str := ["costs_by_sorting", "cheapest_sorting", "one_stop", "need_from", "need_rooms", "between", "room_for", "room_of", "clipped", "first_double", "shown_in", "groups_in"]
def fnames5 : List PySem.Str := ["lines_in", "is_name", "require_names", "require_unlike", "need_window", "first_moment", "need_deed", "clicked_on", "clipped_moment", "moment_after", "moments_of", "last_moment"]
def fnames6 : List PySem.Str := ["last_or_none", "spot_after", "heads", "way_to_order", "need_plain", "plan_by", "need_goal", "plan", "judge_plan", "_law_open", "_law_draw", "_law_rows"]
def fnames7 : List PySem.Str := ["_law_clicks", "_law_keys", "_law_ways", "_law_stop", "_law_stops_right", "_law_plan_right", "_law_right", "law"]
def fnames : List PySem.Str := fnames0 ++ (fnames1 ++ (fnames2 ++ (fnames3 ++ (fnames4 ++ (fnames5 ++ (fnames6 ++ (fnames7)))))))
def dG0 : List DZ := [dz "need_column" 17,
  dz "need_row" 18,
  dz "are_keys" 19,
  dz "is_sorting_of" 20,
  dz "need_sorting" 21,
  dz "need_order" 22,
  dz "after_click" 23,
  dz "need_filters" 26,
  dz "lets" 27,
  dz "lets_all" 28,
  dz "rows_let" 29,
  dz "open_filters" 30]
def dG1 : List DZ := [dz "let_rows" 31,
  dz "check_there" 36,
  dz "are_marks" 37,
  dz "check_marks" 38,
  dz "check_marks_there" 39,
  dz "check_marks_of" 40,
  dz "check_clicks" 41,
  dz "places_of" 42,
  dz "marked_in" 43,
  dz "borders_in" 44,
  dz "blocks_of" 45,
  dz "cost_in" 46]
def dG2 : List DZ := [dz "check_state" 47,
  dz "marked" 48,
  dz "cost" 49,
  dz "numbers_of_covers" 51,
  dz "block_cover" 52,
  dz "cover_in" 53,
  dz "clicks_in" 54,
  dz "need_width" 56,
  dz "all_sortings" 57,
  dz "after_clicks" 58,
  dz "order_in" 59,
  dz "is_sorting" 60]
def dG3 : List DZ := [dz "sortings" 61,
  dz "clicked" 62,
  dz "order_of" 63,
  dz "way_between" 65,
  dz "clicks_of_front" 66,
  dz "need_two" 67,
  dz "distance" 68,
  dz "first_way" 69,
  dz "showing" 70,
  dz "first_of" 71,
  dz "nearest" 72,
  dz "cheapest_in" 74]
def dG4 : List DZ := [dz "costs_by_sorting" 75,
  dz "cheapest_sorting" 76,
  dz "one_stop" 77,
  dz "need_from" 79,
  dz "need_rooms" 80,
  dz "between" 82,
  dz "room_for" 83,
  dz "room_of" 84,
  dz "clipped" 88,
  dz "first_double" 90,
  dz "shown_in" 93,
  dz "groups_in" 94]
def dG5 : List DZ := [dz "lines_in" 95,
  dz "is_name" 100,
  dz "require_names" 101,
  dz "require_unlike" 102,
  dz "need_window" 114,
  dz "first_moment" 115,
  dz "need_deed" 116,
  dz "clicked_on" 118,
  dz "clipped_moment" 120,
  dz "moment_after" 121,
  dz "moments_of" 123,
  dz "last_moment" 124]
def dG6 : List DZ := [dz "last_or_none" 125,
  dz "spot_after" 128,
  dz "heads" 129,
  dz "way_to_order" 130,
  dz "need_plain" 131,
  dz "plan_by" 132,
  dz "need_goal" 133,
  dz "plan" 134,
  dz "judge_plan" 135,
  dz "_law_open" 139,
  dz "_law_draw" 140,
  dz "_law_rows" 141]
def dG7 : List DZ := [dz "_law_clicks" 142,
  dz "_law_keys" 143,
  dz "_law_ways" 144,
  dz "_law_stop" 145,
  dz "_law_stops_right" 146,
  dz "_law_plan_right" 147,
  dz "_law_right" 148,
  dz "law" 149]
def dG : List DZ := dG0 ++ (dG1 ++ (dG2 ++ (dG3 ++ (dG4 ++ (dG5 ++ (dG6 ++ (dG7)))))))
def dM0 : List DZ := [dm "View" "__init__" "View.__init__" 96 0,
  dm "View" "shown" "View.shown" 96 5,
  dm "View" "open_rows" "View.open_rows" 96 7,
  dm "View" "done" "View.done" 96 9,
  dm "View" "__len__" "View.__len__" 96 10,
  dp "View" "table" "View.table" 96 1,
  dp "View" "sorting" "View.sorting" 96 2,
  dp "View" "filters" "View.filters" 96 3,
  dp "View" "folds" "View.folds" 96 4,
  dm "House" "__init__" "House.__init__" 103 0,
  dm "House" "require_place" "House.require_place" 103 2,
  dm "House" "__getitem__" "House.__getitem__" 103 3]
def dM1 : List DZ := [dp "House" "names" "House.names" 103 1,
  dm "Spot" "__init__" "Spot.__init__" 112 0,
  dm "Moment" "__init__" "Moment.__init__" 113 0,
  dm "Moment" "last" "Moment.last" 113 1,
  dm "Moment" "spot" "Moment.spot" 113 2,
  dm "Moment" "with_spot" "Moment.with_spot" 113 3,
  dm "Table" "__init__" "Table.__init__" 137 0,
  dm "Table" "cell" "Table.cell" 137 3,
  dm "Table" "__len__" "Table.__len__" 137 10,
  dp "Table" "width" "Table.width" 137 1,
  dp "Table" "rows" "Table.rows" 137 2]
def dM : List DZ := dM0 ++ (dM1)
def fa0 : List He.Fa := [.free "len",
  .free "range",
  .free "list",
  .free "tuple",
  .free "all",
  .free "any",
  .free "sum",
  .free "min",
  .free "max",
  .free "set",
  .free "sorted",
  .free "enumerate"]
def fa1 : List He.Fa := [.free "zip",
  .free "int",
  .free "abs",
  .free "dict",
  .cls "View",
  .mkr "View",
  .noat "View" "held_table",
  .noat "View" "held_sorting",
  .noat "View" "held_filters",
  .noat "View" "held_folds",
  .noat "View" "held_groups",
  .noat "View" "held_shown"]
def fa2 : List He.Fa := [.noat "View" "held_lines",
  .meth "View" "shown",
  .meth "View" "open_rows",
  .meth "View" "done",
  .cls "House",
  .mkr "House",
  .noat "House" "own_places",
  .meth "House" "require_place",
  .cls "Spot",
  .mkr "Spot",
  .noat "Spot" "look",
  .noat "Spot" "chosen"]
def fa3 : List He.Fa := [.noat "Spot" "origin",
  .noat "Spot" "top",
  .cls "Moment",
  .mkr "Moment",
  .noat "Moment" "path",
  .noat "Moment" "spots",
  .noat "Moment" "page",
  .meth "Moment" "last",
  .meth "Moment" "spot",
  .meth "Moment" "with_spot",
  .cls "Table",
  .mkr "Table"]
def fa4 : List He.Fa := [.noat "Table" "wide",
  .noat "Table" "cell_rows",
  .meth "Table" "cell",
  .glo "need_column",
  .glo "need_row",
  .glo "are_keys",
  .glo "is_sorting_of",
  .glo "need_sorting",
  .glo "need_order",
  .glo "after_click",
  .glo "need_filters",
  .glo "lets"]
def fa5 : List He.Fa := [.glo "lets_all",
  .glo "rows_let",
  .glo "open_filters",
  .glo "let_rows",
  .glo "check_there",
  .glo "are_marks",
  .glo "check_marks",
  .glo "check_marks_there",
  .glo "check_marks_of",
  .glo "check_clicks",
  .glo "places_of",
  .glo "marked_in"]
def fa6 : List He.Fa := [.glo "borders_in",
  .glo "blocks_of",
  .glo "cost_in",
  .glo "check_state",
  .glo "marked",
  .glo "cost",
  .glo "numbers_of_covers",
  .glo "block_cover",
  .glo "cover_in",
  .glo "clicks_in",
  .glo "need_width",
  .glo "all_sortings"]
def fa7 : List He.Fa := [.glo "after_clicks",
  .glo "order_in",
  .glo "is_sorting",
  .glo "sortings",
  .glo "clicked",
  .glo "order_of",
  .glo "way_between",
  .glo "clicks_of_front",
  .glo "need_two",
  .glo "distance",
  .glo "first_way",
  .glo "showing"]
def fa8 : List He.Fa := [.glo "first_of",
  .glo "nearest",
  .glo "cheapest_in",
  .glo "costs_by_sorting",
  .glo "cheapest_sorting",
  .glo "one_stop",
  .glo "need_from",
  .glo "need_rooms",
  .glo "between",
  .glo "room_for",
  .glo "room_of",
  .glo "clipped"]
def fa9 : List He.Fa := [.glo "first_double",
  .glo "shown_in",
  .glo "groups_in",
  .glo "lines_in",
  .glo "is_name",
  .glo "require_names",
  .glo "require_unlike",
  .glo "need_window",
  .glo "first_moment",
  .glo "need_deed",
  .glo "clicked_on",
  .glo "clipped_moment"]
def fa10 : List He.Fa := [.glo "moment_after",
  .glo "moments_of",
  .glo "last_moment",
  .glo "last_or_none",
  .glo "spot_after",
  .glo "heads",
  .glo "way_to_order",
  .glo "need_plain",
  .glo "plan_by",
  .glo "need_goal",
  .glo "plan",
  .glo "judge_plan"]
def fa11 : List He.Fa := [.glo "_law_open",
  .glo "_law_draw",
  .glo "_law_rows",
  .glo "_law_clicks",
  .glo "_law_keys",
  .glo "_law_ways",
  .glo "_law_stop",
  .glo "_law_stops_right",
  .glo "_law_plan_right",
  .glo "_law_right",
  .glo "law",
  .glo "View"]
def fa12 : List He.Fa := [.glo "House",
  .glo "Spot",
  .glo "Moment",
  .glo "Table",
  .str "CLICK" "click",
  .str "RANGE" "range",
  .str "SORT" "sort",
  .str "LETTERS" "abcdefghijklmnopqrstuvwxyz",
  .int "MOST_LETTERS" 8,
  .glo "PARTS",
  .glo "MARKING",
  .glo "OPEN"]
def fa13 : List He.Fa := [.glo "WindowError"]
def fa : List He.Fa := fa0 ++ (fa1 ++ (fa2 ++ (fa3 ++ (fa4 ++ (fa5 ++ (fa6 ++ (fa7 ++ (fa8 ++ (fa9 ++ (fa10 ++ (fa11 ++ (fa12 ++ (fa13)))))))))))))
def exB (K : PySem.W.Frag) : Bool := prB K "View" "table" && prB K "View" "sorting" && prB K "View" "filters" && prB K "View" "folds" && prB K "House" "names" && prB K "Table" "width" && prB K "Table" "rows" && spB K "Table" "__len__" && spB K "View" "__len__" && spB K "House" "__getitem__"
def fn : List DZ := dG ++ dM
def xs0 : List PySem.Str := ["PARTS", "MARKING", "OPEN", "WindowError"]
def xs : List PySem.Str := xs0 ++ fnames
def cs : List PySem.Str := ["View", "House", "Spot", "Moment", "Table"]
def ts : List He.Tab := [(fun K => He.ga K "PARTS", ["sort", "only", "fold", "one", "all", "click", "range", "turn", "visit"])]
def tf : List He.Defn := [("order_in", none), ("first_of", none)]
def mkB (K : PySem.W.Frag) : Bool := He.lstB K "MARKING" [.str "click", .str "range"] && (He.tupB K "OPEN" [.non, .non] && (He.valsB K (He.ga K "PARTS") [("sort", .int 2), ("click", .int 2), ("range", .int 2)] && !((He.cT K ("order_in", none)).2 == (He.cT K ("first_of", none)).2)))
def ex (K : PySem.W.Frag) : Bool := exB K && mkB K
abbrev R : PySem.W.OpenRow := PySem.W.OpenLaw.row PySem.Challenge.rw_listwindow_k60_whole_distances_and_plans
abbrev hk : PySem.W.Hook := hook xs cs fa fn ts tf ex
def ob (s : PySem.W.SharedT) : Al := kf (HandSHeadRun.getT s) xs cs fun K => look fa fn ts tf ex (HandSHeadRun.getT s) K
theorem ob_eq (s : PySem.W.SharedT) : ob s = hk.obs s.abs := by
  have e : HandSHeadRun.getT s = s.abs.heap.get? := funext (HandSHeadRun.getT_eq s)
  unfold ob
  rw [e] <;> rfl
/-! ### the same looks in three parts -/
def grabL (g : Gt) : List Addr → PySem.W.Frag → PySem.W.Frag
  | [], acc => acc
  | a :: r, acc => match g a with
    | none => grabL g r acc
    | some o => grabL g r ((a, o) :: acc)
theorem grab_eq {α : Type} (g : Gt) : ∀ (as : List Addr) (acc : PySem.W.Frag) (k : PySem.W.Frag → α), grab g as acc k = k (grabL g as acc)
  | [], acc, k => rfl
  | a :: r, acc, k => by
    unfold grab grabL
    rw [HandSHeadRun.frNat_eq]
    cases g a with
    | none => exact grab_eq g r acc k
    | some o => exact grab_eq g r ((a, o) :: acc) k
def kfL (g : Gt) (xs cs : List Str) : PySem.W.Frag :=
  (fun K0 => (fun K1 => (fun K2 => (fun K3 => (fun K4 => (fun K5 => (fun K6 => (fun K7 => (fun K8 => K0 ++ (K2 ++ (K3 ++ (K4 ++ (K5 ++ (K7 ++ (K8 ++ (K1 ++ K6))))))))
    (grabL g (nexts codeR K5) [])) (grabL g (nexts codeR K4) [])) (grabL g (nexts codeR K1) [])) (grabL g (nexts fldR K4) [])) (grabL g (nexts valR K3) [])) (grabL g (nexts nsR K2) [])) (grabL g (cs.map (He.ga K0)) [])) (grabL g (xs.map (He.ga K0)) [])) (grabL g [mainGlobals] [])
theorem kf_eq {α : Type} (g : Gt) (xs cs : List Str) (k : PySem.W.Frag → α) : kf g xs cs k = k (kfL g xs cs) := by
  unfold kf kfL
  simp only [grab_eq]
def obA (s : PySem.W.SharedT) : Al := kf (HandSHeadRun.getT s) xs cs fun K => look fa [] ts tf ex (HandSHeadRun.getT s) K
def obM (s : PySem.W.SharedT) : Al := kf (HandSHeadRun.getT s) xs cs fun K => look [] dM [] [] (fun _ => true) (HandSHeadRun.getT s) K
def obG (s : PySem.W.SharedT) : Al := kf (HandSHeadRun.getT s) xs cs fun K => look [] dG [] [] (fun _ => true) (HandSHeadRun.getT s) K
theorem ob_of {s : PySem.W.SharedT} {w : World} (a : obA s = want [] ts w) (m : obM s = want dM [] w) (g : obG s = want dG [] w) : ob s = want fn ts w := by
  unfold obA at a
  unfold obM at m
  unfold obG at g
  unfold ob
  rw [kf_eq] at a m g ⊢
  generalize kfL (HandSHeadRun.getT s) xs cs = K0 at a m g ⊢
  generalize HandSHeadRun.getT s = gt at a m g ⊢
  have a1 := congrArg (fun z : Al => z.1) a
  have a3 : ts.map (fun t => He.dicW K0 (t.1 K0)) = ts.map fun t => some (He.keysIn w.params t.2) := congrArg (fun z : Al => z.2.2) a
  have m1 : (true && (dM.all (fun d => cdB K0 d) && (true && true))) = true := congrArg (fun z : Al => z.1) m
  have m2 : dM.map (fun d => fz K0 (d.ad K0)) = dM.map DZ.val := congrArg (fun z : Al => z.2.1) m
  have g1 : (true && (dG.all (fun d => cdB K0 d) && (true && true))) = true := congrArg (fun z : Al => z.1) g
  have g2 : dG.map (fun d => fz K0 (d.ad K0)) = dG.map DZ.val := congrArg (fun z : Al => z.2.1) g
  rw [Bool.true_and, Bool.and_true, Bool.and_true] at m1 g1
  unfold look want fn
  rw [List.all_append, List.map_append, List.map_append, m1, g1, m2, g2]
  exact Prod.ext a1 (Prod.ext rfl a3)
noncomputable abbrev En (w : World) (os : OsState) : Option PySem.W.SharedT := HandSHeadRun.endF (HandSHeadRun.stepQ (HandSHeadRun.denQ HandSHeadRun.tabQ) R.prog w) 10000 R.prog w os
end Hd
set_option Elab.async false
set_option linter.all false
set_option maxRecDepth 100000
set_option maxHeartbeats 0
namespace Hd
open PySem PySem.Spec PyProof.Rows L2
open PySem.W PySem.Calls in
theorem r1_false (w : World) (os : OsState) : (En (w.withFollow "special-get-raises" false) os).map (fun s => (HandSHeadRun.looksF R.prog (boot_heap (w.withFollow "special-get-raises" false).params) s.abs, obA s)) = some (true, want [] ts (w.withFollow "special-get-raises" false)) := by kernel_rfl
end Hd
set_option Elab.async false
set_option linter.all false
set_option maxRecDepth 100000
set_option maxHeartbeats 0
namespace Hd
open PySem PySem.Spec PyProof.Rows L2
open PySem.W PySem.Calls in
theorem r2_false (w : World) (os : OsState) : (En (w.withFollow "special-get-raises" false) os).map (fun s => (HandSHeadRun.seenQ (PySem.W.view R.prog [149]) loose (importedModules R.prog.main.body) (fun s => xlAt (PySem.W.view R.prog [149]) [] s && recOk R.toRowW.records s) s.abs, obM s)) = some (openGood (PySem.W.view R.prog [149]) loose, want dM [] (w.withFollow "special-get-raises" false)) := by kernel_rfl
end Hd
set_option Elab.async false
set_option linter.all false
set_option maxRecDepth 100000
set_option maxHeartbeats 0
namespace Hd
open PySem PySem.Spec PyProof.Rows L2
theorem r3_false (w : World) (os : OsState) : (En (w.withFollow "special-get-raises" false) os).map obG = some (want dG [] (w.withFollow "special-get-raises" false)) := by kernel_rfl
end Hd
set_option Elab.async false
set_option linter.all false
set_option maxRecDepth 100000
set_option maxHeartbeats 0
namespace Hd
open PySem PySem.Spec PyProof.Rows L2
open PySem.W PySem.Calls in
theorem r1_true (w : World) (os : OsState) : (En (w.withFollow "special-get-raises" true) os).map (fun s => (HandSHeadRun.looksF R.prog (boot_heap (w.withFollow "special-get-raises" true).params) s.abs, obA s)) = some (true, want [] ts (w.withFollow "special-get-raises" true)) := by kernel_rfl
end Hd
set_option Elab.async false
set_option linter.all false
set_option maxRecDepth 100000
set_option maxHeartbeats 0
namespace Hd
open PySem PySem.Spec PyProof.Rows L2
open PySem.W PySem.Calls in
theorem r2_true (w : World) (os : OsState) : (En (w.withFollow "special-get-raises" true) os).map (fun s => (HandSHeadRun.seenQ (PySem.W.view R.prog [149]) loose (importedModules R.prog.main.body) (fun s => xlAt (PySem.W.view R.prog [149]) [] s && recOk R.toRowW.records s) s.abs, obM s)) = some (openGood (PySem.W.view R.prog [149]) loose, want dM [] (w.withFollow "special-get-raises" true)) := by kernel_rfl
end Hd
set_option Elab.async false
set_option linter.all false
set_option maxRecDepth 100000
set_option maxHeartbeats 0
namespace Hd
open PySem PySem.Spec PyProof.Rows L2
theorem r3_true (w : World) (os : OsState) : (En (w.withFollow "special-get-raises" true) os).map obG = some (want dG [] (w.withFollow "special-get-raises" true)) := by kernel_rfl
end Hd
set_option Elab.async false
set_option linter.all false
set_option maxRecDepth 100000
set_option maxHeartbeats 0
/-! # the run, joined -/
namespace Hd
open PySem PySem.Spec PyProof.Rows L2
open PySem.W PySem.Calls in
theorem run_of {w : World} {lo : PySem.W.SharedT → Bool} {β : Type} {se : PySem.W.SharedT → β} {go : β} {o : Option PySem.W.SharedT}
    (a : o.map (fun s => (lo s, obA s)) = some (true, want [] ts w)) (b : o.map (fun s => (se s, obM s)) = some (go, want dM [] w)) (c : o.map obG = some (want dG [] w)) : o.map (fun s => (lo s, se s, ob s)) = some (true, go, want fn ts w) := by
  cases o with
  | none => cases a
  | some s =>
    simp only [Option.map_some, Option.some.injEq, Prod.mk.injEq] at a b c ⊢
    exact ⟨a.1, b.1, ob_of a.2 b.2 c⟩
theorem run_f (w : World) : HandSHeadRun.RunEq R (PySem.W.view R.prog [149]) hk ob 10000 loose (w.withFollow "special-get-raises" false) := fun os => run_of (r1_false w os) (r2_false w os) (r3_false w os)
theorem run_t (w : World) : HandSHeadRun.RunEq R (PySem.W.view R.prog [149]) hk ob 10000 loose (w.withFollow "special-get-raises" true) := fun os => run_of (r1_true w os) (r2_true w os) (r3_true w os)
theorem run (w : World) : HandSHeadRun.RunEq R (PySem.W.view R.prog [149]) hk ob 10000 loose w := by
  have e := World.withFollow_self w "special-get-raises"
  rw [← e]
  cases w.params.followText "special-get-raises"
  · exact run_f w
  · exact run_t w
end Hd
set_option Elab.async false
set_option linter.all false
set_option maxRecDepth 100000
set_option maxHeartbeats 4000000
/-! # Data instead of heaps: what a value stands for (D, Rep), worlds, slots, and the judgements over data -/
namespace Lw
open PySem PySem.Spec PyProof.Rows L2

/-! ### data -/
inductive D where
  | non | bl (b : Bool) | int (i : Int) | str (x : Str)
  | lst (xs : List D) | tup (xs : List D)
  | ins (C : Addr) (ns : List Str) (xs : List D)
  | dic (ks : List Key) (xs : List D)

mutual
inductive Rep (K : PySem.W.Frag) (F : Hp) : V → D → Prop
  | non : Rep K F .non .non
  | bl {b} : Rep K F (.bl b) (.bl b)
  | int {i} : Rep K F (.int i) (.int i)
  | str {x} : Rep K F (.str x) (.str x)
  | lst {a vs ds} : F a = some (.lst vs) → Reps K F vs ds → Rep K F (.ref a) (.lst ds)
  | tup {a vs ds} : SqT K F a vs → Reps K F vs ds → Rep K F (.ref a) (.tup ds)
  | ins {a C dx fs ns ds} : F a = some (.ins C dx fs) → fs.map (·.1) = ns → Reps K F (fs.map (·.2)) ds → Rep K F (.ref a) (.ins C ns ds)
  | dic {a kvs ks ds} : F a = some (.dK kvs) → kvs.map (·.1) = ks → Reps K F (kvs.map (·.2)) ds → Rep K F (.ref a) (.dic ks ds)
inductive Reps (K : PySem.W.Frag) (F : Hp) : List V → List D → Prop
  | nil : Reps K F [] []
  | cons {v d vs ds} : Rep K F v d → Reps K F vs ds → Reps K F (v :: vs) (d :: ds)
end

def FLe (F F' : Hp) : Prop := ∀ a o, F a = some o → F' a = some o
theorem FLe.refl (F : Hp) : FLe F F := fun _ _ h => h
theorem FLe.trans {F F1 F2 : Hp} (a : FLe F F1) (b : FLe F1 F2) : FLe F F2 := fun x o h => b x o (a x o h)
theorem FLe.rd {F F' : Hp} {a : Addr} {u : HO} (e : FLe F F') (h : Rd F a u) : Rd F' a u := by
  rcases h with h | ⟨o, h⟩
  · exact .inl (e _ _ h)
  · exact .inr ⟨o, e _ _ h⟩
theorem FLe.sqt {K : PySem.W.Frag} {F F' : Hp} {a : Addr} {xs : List V} (e : FLe F F') (h : SqT K F a xs) : SqT K F' a xs := by
  rcases h with h | h
  · exact .inl (e.rd h)
  · exact .inr h
theorem FLe.sql {K : PySem.W.Frag} {F F' : Hp} {a : Addr} {xs : List V} (e : FLe F F') (h : SqL K F a xs) : SqL K F' a xs := by
  rcases h with h | h
  · exact .inl (e.rd h)
  · exact .inr h
mutual
theorem Rep.mono {K : PySem.W.Frag} {F F' : Hp} (e : FLe F F') : ∀ {v : V} {d : D}, Rep K F v d → Rep K F' v d
  | _, _, .non => .non
  | _, _, .bl => .bl
  | _, _, .int => .int
  | _, _, .str => .str
  | _, _, .lst h r => .lst (e _ _ h) (Reps.mono e r)
  | _, _, .tup h r => .tup (e.sqt h) (Reps.mono e r)
  | _, _, .ins h k r => .ins (e _ _ h) k (Reps.mono e r)
  | _, _, .dic h k r => .dic (e _ _ h) k (Reps.mono e r)
theorem Reps.mono {K : PySem.W.Frag} {F F' : Hp} (e : FLe F F') : ∀ {vs : List V} {ds : List D}, Reps K F vs ds → Reps K F' vs ds
  | _, _, .nil => .nil
  | _, _, .cons r t => .cons (Rep.mono e r) (Reps.mono e t)
end
section
variable {K : PySem.W.Frag} {F : Hp}
theorem Reps.length : ∀ {vs : List V} {ds : List D}, Reps K F vs ds → vs.length = ds.length
  | _, _, .nil => rfl
  | _, _, .cons _ t => congrArg (· + 1) t.length
theorem Reps.get : ∀ {vs : List V} {ds : List D} {i : Nat} {d : D}, Reps K F vs ds → ds[i]? = some d → ∃ v, vs[i]? = some v ∧ Rep K F v d
  | _, _, _, _, .nil, h => by simp at h
  | _, _, 0, _, .cons r _, h => by
    cases h
    exact ⟨_, rfl, r⟩
  | _, _, i + 1, _, .cons _ t, h => t.get (i := i) h
theorem Reps.getV : ∀ {vs : List V} {ds : List D} {i : Nat} {v : V}, Reps K F vs ds → vs[i]? = some v → ∃ d, ds[i]? = some d ∧ Rep K F v d
  | _, _, _, _, .nil, h => by simp at h
  | _, _, 0, _, .cons r _, h => by
    cases h
    exact ⟨_, rfl, r⟩
  | _, _, i + 1, _, .cons _ t, h => t.getV (i := i) h
theorem Reps.append : ∀ {vs ws : List V} {ds es : List D}, Reps K F vs ds → Reps K F ws es → Reps K F (vs ++ ws) (ds ++ es)
  | _, _, _, _, .nil, s => s
  | _, _, _, _, .cons r t, s => .cons r (t.append s)
theorem Reps.take : ∀ {vs : List V} {ds : List D} (n : Nat), Reps K F vs ds → Reps K F (vs.take n) (ds.take n)
  | _, _, 0, _ => by
    rw [List.take_zero, List.take_zero]
    exact .nil
  | _, _, _ + 1, .nil => .nil
  | _, _, n + 1, .cons r t => .cons r (t.take n)
theorem Reps.drop : ∀ {vs : List V} {ds : List D} (n : Nat), Reps K F vs ds → Reps K F (vs.drop n) (ds.drop n)
  | _, _, 0, r => r
  | _, _, _ + 1, .nil => .nil
  | _, _, n + 1, .cons _ t => t.drop n
theorem Reps.reverse : ∀ {vs : List V} {ds : List D}, Reps K F vs ds → Reps K F vs.reverse ds.reverse
  | _, _, .nil => .nil
  | _, _, .cons r t => by
    rw [List.reverse_cons, List.reverse_cons]
    exact t.reverse.append (.cons r .nil)
theorem Reps.set {v : V} {d : D} (r : Rep K F v d) : ∀ {vs : List V} {ds : List D} (i : Nat), Reps K F vs ds → Reps K F (vs.set i v) (ds.set i d)
  | _, _, _, .nil => .nil
  | _, _, 0, .cons _ t => .cons r t
  | _, _, i + 1, .cons q t => .cons q (Reps.set r i t)
theorem Reps.eraseIdx : ∀ {vs : List V} {ds : List D} (i : Nat), Reps K F vs ds → Reps K F (vs.eraseIdx i) (ds.eraseIdx i)
  | _, _, _, .nil => .nil
  | _, _, 0, .cons _ t => t
  | _, _, i + 1, .cons q t => .cons q (Reps.eraseIdx i t)
theorem Reps.rep {vs : List V} {ds : List D} (h : Reps K F vs ds) : ∀ k : Nat, Reps K F (List.replicate k vs).flatten (List.replicate k ds).flatten
  | 0 => .nil
  | k + 1 => by
    rw [List.replicate_succ, List.replicate_succ, List.flatten_cons, List.flatten_cons]
    exact h.append (h.rep k)
end
/-- a datum without an address -/
def flat : D → Bool
  | .non => true
  | .bl _ => true
  | .int _ => true
  | .str _ => true
  | _ => false
theorem Rep.flatMono {K : PySem.W.Frag} {F F' : Hp} {v : V} {d : D} (h : flat d = true) (r : Rep K F v d) : Rep K F' v d := by
  cases r with
  | non => exact .non
  | bl => exact .bl
  | int => exact .int
  | str => exact .str
  | lst _ _ => cases h
  | tup _ _ => cases h
  | ins _ _ _ => cases h
  | dic _ _ _ => cases h

/-! ### worlds: F what stands for ever, H all that is tracked -/
structure Wd where
  F : Hp
  H : Hp
abbrev Tbs := List (Addr × Str)
structure Good (TB : Tbs) (w : Wd) : Prop where
  sub : FLe w.F w.H
  nt : ∀ a ps, w.F a ≠ some (.tbl ps)
  tb : LamX.Tabs TB w.H
structure Le (w w' : Wd) : Prop where
  f : FLe w.F w'.F
  h : ∀ a o, w.H a = some o → (∀ ps, o ≠ .tbl ps) → w'.H a = some o
  n : ∀ a o, w.H a = some o → (∀ ps, o ≠ .tbl ps) → w'.F a = w.F a
theorem Le.refl (w : Wd) : Le w w := ⟨FLe.refl _, fun _ _ h _ => h, fun _ _ _ _ => rfl⟩
theorem Le.trans {w w1 w2 : Wd} (a : Le w w1) (b : Le w1 w2) : Le w w2 :=
  ⟨a.f.trans b.f, fun x o h n => b.h x o (a.h x o h n) n, fun x o h n => (b.n x o (a.h x o h n) n).trans (a.n x o h n)⟩
theorem Le.free {w w' : Wd} (l : Le w w') (TB : Tbs) (g : Good TB w) (g' : Good TB w') {a : Addr} (h : w'.H a = none) : w.F a = none := by
  cases q : w.F a with
  | none => rfl
  | some o =>
    have := g'.sub a o (l.f a o q)
    rw [h] at this
    cases this

theorem FLe.new {F : Hp} {p : Addr} {o : HO} (h : F p = none) : FLe F (upd F p o) := fun a u e => by
  rw [upd_ne (ne_of_none e h)]
  exact e
theorem Good.fresh {TB : Tbs} {w : Wd} (g : Good TB w) {p : Addr} (h : w.H p = none) : w.F p = none := by
  cases q : w.F p with
  | none => rfl
  | some o =>
    rw [g.sub p o q] at h
    cases h
theorem tabs_new {TB : Tbs} {H : Hp} {p : Addr} {o : HO} (t : LamX.Tabs TB H) (h : H p = none) : LamX.Tabs TB (upd H p o) := t.ext fun b u e => by
  rw [upd_ne (ne_of_none e h)]
  exact e
/-- a new thing that stands for ever -/
theorem Good.new {TB : Tbs} {w : Wd} (g : Good TB w) {p : Addr} {o : HO} (h : w.H p = none) (no : ∀ ps, o ≠ .tbl ps) : Good TB ⟨upd w.F p o, upd w.H p o⟩ where
  sub := fun a u e => by
    have e0 : upd w.F p o a = some u := e
    show upd w.H p o a = some u
    by_cases ha : a = p
    · subst ha
      rw [upd_same] at e0 ⊢
      exact e0
    · rw [upd_ne ha] at e0 ⊢
      exact g.sub a u e0
  nt := fun a ps e => by
    by_cases ha : a = p
    · subst ha
      have e' : upd w.F a o a = some (.tbl ps) := e
      rw [upd_same] at e'
      exact no ps (Option.some.inj e')
    · have e' : upd w.F p o a = some (.tbl ps) := e
      rw [upd_ne ha] at e'
      exact g.nt a ps e'
  tb := tabs_new g.tb h
theorem Le.new {w : Wd} {p : Addr} {o u : HO} (h : w.H p = none) (hf : w.F p = none) : Le w ⟨upd w.F p o, upd w.H p u⟩ where
  f := FLe.new hf
  h := fun a x e _ => by
    show upd w.H p u a = some x
    rw [upd_ne (ne_of_none e h)]
    exact e
  n := fun a x e _ => by
    show upd w.F p o a = w.F a
    rw [upd_ne (ne_of_none e h)]
/-- a new thing that may change yet -/
theorem Good.own {TB : Tbs} {w : Wd} (g : Good TB w) {p : Addr} {o : HO} (h : w.F p = none) (ht : LamX.Tabs TB (upd w.H p o)) : Good TB ⟨w.F, upd w.H p o⟩ where
  sub := fun a u e => by
    show upd w.H p o a = some u
    rw [upd_ne (ne_of_none e h)]
    exact g.sub a u e
  nt := g.nt
  tb := ht
theorem Le.own {w : Wd} {p : Addr} {o : HO} (h : w.H p = none) : Le w ⟨w.F, upd w.H p o⟩ where
  f := FLe.refl _
  h := fun a x e _ => by
    show upd w.H p o a = some x
    rw [upd_ne (ne_of_none e h)]
    exact e
  n := fun _ _ _ _ => rfl

/-! ### slots -/
/-- a thing of the def's own that may change: a list, a dict, an instance in the making -/
inductive OO where
  | l (xs : List D) | k (ks : List Key) (xs : List D) | i (at_ C : Addr) (ns : List Str) (xs : List D) | s (ks : List Int) | q (at_ : Addr) (xs : List Int)
inductive Sl where
  | no | d (x : D) | o (x : OO)
def OOk (K : PySem.W.Frag) (F : Hp) (p : Addr) : HO → OO → Prop
  | .lst vs, .l ds => Reps K F vs ds
  | .dK kvs, .k ks ds => kvs.map (·.1) = ks ∧ Reps K F (kvs.map (·.2)) ds
  | .ins C' _ fs, .i a C ns ds => p = a ∧ C' = C ∧ fs.map (·.1) = ns ∧ Reps K F (fs.map (·.2)) ds
  | .dK kvs, .s ks => kvs = ks.map fun i => ((Sum.inl i : Key), V.bl true)
  | .lst vs, .q a xs => p = a ∧ vs = xs.map V.int
  | _, _ => False
theorem OOk.mono {K : PySem.W.Frag} {F F' : Hp} {p : Addr} (e : FLe F F') : ∀ {h : HO} {x : OO}, OOk K F p h x → OOk K F' p h x := by
  intro h x r
  cases h <;> cases x <;> first | exact r.elim | skip
  · exact Reps.mono e r
  · exact r
  · exact ⟨r.1, Reps.mono e r.2⟩
  · exact r
  · exact ⟨r.1, r.2.1, r.2.2.1, Reps.mono e r.2.2.2⟩
theorem OOk.nt {K : PySem.W.Frag} {F : Hp} {p : Addr} {h : HO} {x : OO} (r : OOk K F p h x) : ∀ ps, h ≠ .tbl ps := by
  intro ps e
  subst e
  cases x <;> exact r.elim
/-- what it is when nothing changes it any more -/
def OO.fz : OO → D
  | .l xs => .lst xs
  | .k ks xs => .dic ks xs
  | .i _ C ns xs => .ins C ns xs
  | .s ks => .dic (ks.map Sum.inl) (ks.map fun _ => .bl true)
  | .q _ xs => .lst (xs.map .int)
theorem reps_trues {K : PySem.W.Frag} {F : Hp} : ∀ ks : List Int, Reps K F ((ks.map fun i => ((Sum.inl i : Key), V.bl true)).map (·.2)) (ks.map fun _ => D.bl true)
  | [] => .nil
  | _ :: ks => .cons .bl (reps_trues ks)
theorem reps_ofInts {K : PySem.W.Frag} {F : Hp} : ∀ xs : List Int, Reps K F (xs.map V.int) (xs.map D.int)
  | [] => .nil
  | _ :: xs => .cons .int (reps_ofInts xs)
theorem OOk.fz {K : PySem.W.Frag} {F : Hp} {p : Addr} {h : HO} {x : OO} (r : OOk K F p h x) (e : F p = some h) : Rep K F (.ref p) x.fz := by
  cases h <;> cases x <;> first | exact r.elim | skip
  · exact .lst e r
  · obtain ⟨rfl, rfl⟩ := r
    exact .lst e (reps_ofInts _)
  · exact .dic e r.1 r.2
  · refine .dic e ?_ ?_
    · rw [show _ = _ from r, List.map_map]
      rfl
    · rw [show _ = _ from r]
      exact reps_trues _
  · obtain ⟨rfl, rfl, h2, h3⟩ := r
    exact .ins e h2 h3

structure Ok (K : PySem.W.Frag) (TB : Tbs) (w0 w : Wd) (σ : L2.St) (env : List Sl) : Prop where
  good : Good TB w
  le : Le w0 w
  len : env.length = σ.length
  dat : ∀ (i : Nat) (x : D), env[i]? = some (Sl.d x) → ∃ v, σ[i]? = some (some v) ∧ Rep K w.F v x
  own : ∀ (i : Nat) (x : OO), env[i]? = some (Sl.o x) → ∃ (p : Addr) (h : HO), σ[i]? = some (some (V.ref p)) ∧ w.H p = some h ∧ w.F p = none ∧ (∀ o, w0.H p = some o → ∃ ps, o = .tbl ps) ∧ OOk K w.F p h x
  sep : ∀ (i j : Nat) (x y : OO) (p : Addr), i ≠ j → env[i]? = some (Sl.o x) → env[j]? = some (Sl.o y) → σ[i]? = some (some (V.ref p)) → σ[j]? ≠ some (some (V.ref p))
section
variable {K : PySem.W.Frag} {TB : Tbs} {w0 w w' : Wd} {σ : L2.St} {env : List Sl}
theorem Ok.mono (k : Ok K TB w0 w σ env) (g : Good TB w') (l : Le w w') : Ok K TB w0 w' σ env where
  good := g
  le := k.le.trans l
  len := k.len
  dat := fun i x e => let ⟨v, a, b⟩ := k.dat i x e; ⟨v, a, b.mono l.f⟩
  own := fun i x e => by
    obtain ⟨p, h, a, b, c, d, r⟩ := k.own i x e
    exact ⟨p, h, a, l.h p h b r.nt, (l.n p h b r.nt).trans c, d, r.mono l.f⟩
  sep := k.sep
theorem get_set {α : Type} {l : List α} {i j : Nat} {x y : α} (h : (l.set i x)[j]? = some y) : (i = j ∧ x = y) ∨ (i ≠ j ∧ l[j]? = some y) := by
  by_cases e : i = j
  · subst e
    by_cases hl : i < l.length
    · rw [List.getElem?_set_self hl] at h
      exact .inl ⟨rfl, Option.some.inj h⟩
    · rw [List.getElem?_eq_none (by rw [List.length_set]; omega)] at h
      cases h
  · rw [List.getElem?_set_ne e] at h
    exact .inr ⟨e, h⟩
/-- a slot gets a datum -/
theorem Ok.set (k : Ok K TB w0 w σ env) {i : Nat} {v : V} {x : D} (r : Rep K w.F v x) : Ok K TB w0 w (σ.set i (some v)) (env.set i (Sl.d x)) where
  good := k.good
  le := k.le
  len := by rw [List.length_set, List.length_set, k.len]
  dat := fun j y e => by
    rcases get_set e with ⟨rfl, h⟩ | ⟨ne, h⟩
    · have hi : i < σ.length := by
        rw [← k.len]
        have := (List.getElem?_eq_some_iff.mp e).1
        rw [List.length_set] at this
        exact this
      cases h
      exact ⟨v, List.getElem?_set_self hi, r⟩
    · rw [List.getElem?_set_ne ne]
      exact k.dat j y h
  own := fun j y e => by
    rcases get_set e with ⟨rfl, h⟩ | ⟨ne, h⟩
    · cases h
    · rw [List.getElem?_set_ne ne]
      exact k.own j y h
  sep := fun a b x y p ne e1 e2 => by
    rcases get_set e1 with ⟨rfl, h⟩ | ⟨n1, h1⟩
    · cases h
    · rcases get_set e2 with ⟨rfl, h⟩ | ⟨n2, h2⟩
      · cases h
      · rw [List.getElem?_set_ne n1, List.getElem?_set_ne n2]
        exact k.sep a b x y p ne h1 h2
/-- the content of a thing of the def's own changes -/
theorem Ok.chg (k : Ok K TB w0 w σ env) {i : Nat} {p : Addr} {h : HO} {x y : OO} (e : env[i]? = some (Sl.o x)) (s : σ[i]? = some (some (V.ref p))) (r : OOk K w.F p h y) :
    Ok K TB w0 ⟨w.F, upd w.H p h⟩ σ (env.set i (Sl.o y)) := by
  obtain ⟨p', h0, s', hp, hf, h0n, r0⟩ := k.own i x e
  rw [s] at s'
  cases s'
  have tbn : ∀ a ps, w.H a = some (.tbl ps) → a ≠ p := fun a ps q z => by
    subst z
    rw [hp] at q
    cases q
    exact r0.nt ps rfl
  have tk : LamX.Tabs TB (upd w.H p h) := fun q hq => by
    obtain ⟨ps, a1, a2, a3⟩ := k.good.tb q hq
    refine ⟨ps, by rw [upd_ne (tbn _ _ a1)]; exact a1, a2, fun pos cv hc => ?_⟩
    obtain ⟨c, e1, e2⟩ := a3 pos cv hc
    refine ⟨c, e1, ?_⟩
    rw [upd_ne fun z => ?_]
    · exact e2
    · subst z
      rw [hp] at e2
      unfold LamX.CodeO at e2
      cases e2
      cases x <;> exact r0.elim
  refine ⟨k.good.own hf tk, ⟨k.le.f, fun a o q n => ?_, k.le.n⟩, by rw [List.length_set, k.len], fun j z q => ?_, fun j z q => ?_, fun a b u v q ne e1 e2 => ?_⟩
  · show upd w.H p h a = some o
    rw [upd_ne fun z => ?_]
    · exact k.le.h a o q n
    · subst z
      obtain ⟨ps, e⟩ := h0n o q
      exact n ps e
  · rcases get_set q with ⟨rfl, h⟩ | ⟨ne, h1⟩
    · cases h
    · exact k.dat j z h1
  · rcases get_set q with ⟨rfl, h1⟩ | ⟨ne, h1⟩
    · cases h1
      exact ⟨p, h, s, upd_same, hf, h0n, r⟩
    · obtain ⟨p2, h2, s2, hp2, hf2, n2, r2⟩ := k.own j z h1
      refine ⟨p2, h2, s2, ?_, hf2, n2, r2⟩
      show upd w.H p h p2 = some h2
      rw [upd_ne fun z => ?_]
      · exact hp2
      · subst z
        exact k.sep i j x z p2 ne e h1 s s2
  · have back : ∀ c z, (env.set i (Sl.o y))[c]? = some (Sl.o z) → ∃ z', env[c]? = some (Sl.o z') := fun c z q => by
      rcases get_set q with ⟨rfl, _⟩ | ⟨_, h1⟩
      · exact ⟨x, e⟩
      · exact ⟨z, h1⟩
    obtain ⟨u', e1'⟩ := back a u e1
    obtain ⟨v', e2'⟩ := back b v e2
    exact k.sep a b u' v' q ne e1' e2'
/-- a new thing of the def's own in a slot -/
theorem Ok.lay (k : Ok K TB w0 w σ env) {i : Nat} {p : Addr} {h : HO} {y : OO} (hn : w.H p = none) (r : OOk K w.F p h y) :
    Ok K TB w0 ⟨w.F, upd w.H p h⟩ (σ.set i (some (V.ref p))) (env.set i (Sl.o y)) := by
  have hf := k.good.fresh hn
  have l : Le w ⟨w.F, upd w.H p h⟩ := Le.own hn
  have k1 : Ok K TB w0 ⟨w.F, upd w.H p h⟩ σ env := k.mono (k.good.own hf (tabs_new k.good.tb hn)) l
  have h0 : ∀ o, w0.H p = some o → ∃ ps, o = .tbl ps := fun o q => by
    cases o with
    | tbl ps => exact ⟨ps, rfl⟩
    | _ =>
      have z := k.le.h p _ q (fun ps e => by cases e)
      rw [hn] at z
      cases z
  have other : ∀ j z, env[j]? = some (Sl.o z) → σ[j]? ≠ some (some (V.ref p)) := fun j z q s => by
    obtain ⟨p2, h2, s2, hp2, _⟩ := k.own j z q
    rw [s] at s2
    cases s2
    rw [hn] at hp2
    cases hp2
  refine ⟨k1.good, k1.le, by rw [List.length_set, List.length_set, k.len], fun j z q => ?_, fun j z q => ?_, fun a b u v q ne e1 e2 => ?_⟩
  · rcases get_set q with ⟨rfl, h1⟩ | ⟨ne, h1⟩
    · cases h1
    · rw [List.getElem?_set_ne ne]
      exact k1.dat j z h1
  · rcases get_set q with ⟨rfl, h1⟩ | ⟨ne, h1⟩
    · cases h1
      have hi : i < σ.length := by
        rw [← k.len]
        have := (List.getElem?_eq_some_iff.mp q).1
        rw [List.length_set] at this
        exact this
      exact ⟨p, h, List.getElem?_set_self hi, upd_same, hf, h0, r⟩
    · rw [List.getElem?_set_ne ne]
      exact k1.own j z h1
  · have hi : ∀ c z, (env.set i (Sl.o y))[c]? = some (Sl.o z) → i = c → (σ.set i (some (V.ref p)))[c]? = some (some (V.ref p)) := fun c z q e => by
      subst e
      refine List.getElem?_set_self ?_
      rw [← k.len]
      have := (List.getElem?_eq_some_iff.mp q).1
      rw [List.length_set] at this
      exact this
    rcases get_set e1 with ⟨rfl, h1⟩ | ⟨n1, h1⟩
    · rcases get_set e2 with ⟨rfl, h2⟩ | ⟨n2, h2⟩
      · exact absurd rfl ne
      · rw [hi _ _ e1 rfl, List.getElem?_set_ne n2]
        intro s s2
        cases s
        exact other b v h2 s2
    · rcases get_set e2 with ⟨rfl, h2⟩ | ⟨n2, h2⟩
      · rw [hi _ _ e2 rfl, List.getElem?_set_ne n1]
        intro s s2
        cases s2
        exact other a u h1 s
      · rw [List.getElem?_set_ne n1, List.getElem?_set_ne n2]
        exact k.sep a b u v q ne h1 h2
/-- a slot is forgotten -/
theorem Ok.drop (k : Ok K TB w0 w σ env) (i : Nat) : Ok K TB w0 w σ (env.set i Sl.no) where
  good := k.good
  le := k.le
  len := by rw [List.length_set, k.len]
  dat := fun j y e => by
    rcases get_set e with ⟨rfl, h⟩ | ⟨ne, h⟩
    · cases h
    · exact k.dat j y h
  own := fun j y e => by
    rcases get_set e with ⟨rfl, h⟩ | ⟨ne, h⟩
    · cases h
    · exact k.own j y h
  sep := fun a b x y p ne e1 e2 => by
    rcases get_set e1 with ⟨rfl, h⟩ | ⟨n1, h1⟩
    · cases h
    · rcases get_set e2 with ⟨rfl, h⟩ | ⟨n2, h2⟩
      · cases h
      · exact k.sep a b x y p ne h1 h2
/-- a thing of the def's own stands for ever from now on -/
theorem Ok.fz (k : Ok K TB w0 w σ env) {i : Nat} {p : Addr} {x : OO} (e : env[i]? = some (Sl.o x)) (s : σ[i]? = some (some (V.ref p))) :
    ∃ h, w.H p = some h ∧ w.F p = none ∧ (∀ ps, h ≠ .tbl ps) ∧ Ok K TB w0 ⟨upd w.F p h, w.H⟩ σ (env.set i (Sl.d x.fz)) := by
  obtain ⟨p', h, s', hp, hf, h0n, r⟩ := k.own i x e
  rw [s] at s'
  cases s'
  have fl : FLe w.F (upd w.F p h) := FLe.new hf
  refine ⟨h, hp, hf, r.nt, ⟨⟨fun a o q => ?_, fun a ps q => ?_, k.good.tb⟩, ⟨k.le.f.trans fl, k.le.h, fun a o q n => ?_⟩, by rw [List.length_set, k.len], fun j z q => ?_, fun j z q => ?_, fun a b u v q ne e1 e2 => ?_⟩⟩
  · have q0 : upd w.F p h a = some o := q
    by_cases ha : a = p
    · subst ha
      rw [upd_same] at q0
      cases q0
      exact hp
    · rw [upd_ne ha] at q0
      exact k.good.sub a o q0
  · by_cases ha : a = p
    · subst ha
      have q' : upd w.F a h a = some (.tbl ps) := q
      rw [upd_same] at q'
      exact r.nt ps (Option.some.inj q')
    · have q' : upd w.F p h a = some (.tbl ps) := q
      rw [upd_ne ha] at q'
      exact k.good.nt a ps q'
  · show upd w.F p h a = w0.F a
    rw [upd_ne fun z => ?_]
    · exact k.le.n a o q n
    · subst z
      obtain ⟨ps, e⟩ := h0n o q
      exact n ps e
  · rcases get_set q with ⟨rfl, h1⟩ | ⟨ne, h1⟩
    · cases h1
      exact ⟨.ref p, s, (r.mono fl).fz upd_same⟩
    · obtain ⟨v, a, b⟩ := k.dat j z h1
      exact ⟨v, a, b.mono fl⟩
  · rcases get_set q with ⟨rfl, h1⟩ | ⟨ne, h1⟩
    · cases h1
    · obtain ⟨p2, h2, s2, hp2, hf2, n2, r2⟩ := k.own j z h1
      refine ⟨p2, h2, s2, hp2, ?_, n2, r2.mono fl⟩
      show upd w.F p h p2 = none
      rw [upd_ne fun z => ?_]
      · exact hf2
      · subst z
        exact k.sep i j x z p2 ne e h1 s s2
  · rcases get_set e1 with ⟨rfl, h1⟩ | ⟨n1, h1⟩
    · cases h1
    · rcases get_set e2 with ⟨rfl, h2⟩ | ⟨n2, h2⟩
      · cases h2
      · exact k.sep a b u v q ne h1 h2
/-- the slot of a thing of one's own tells where it is -/
theorem Ok.ownAt (k : Ok K TB w0 w σ env) {i : Nat} {x : OO} (e : env[i]? = some (Sl.o x)) : ∃ p, σ[i]? = some (some (V.ref p)) := by
  obtain ⟨p, _, s, _⟩ := k.own i x e
  exact ⟨p, s⟩
end
/-! ### knowing less -/
inductive WkS : Sl → Sl → Prop
  | refl {s} : WkS s s
  | drop {s} : WkS s .no
  | fz {x : OO} : WkS (.o x) (.d x.fz)
inductive Weak : List Sl → List Sl → Prop
  | nil : Weak [] []
  | cons {s t l m} : WkS s t → Weak l m → Weak (s :: l) (t :: m)
theorem Weak.refl : ∀ l : List Sl, Weak l l
  | [] => .nil
  | _ :: l => .cons .refl (Weak.refl l)
theorem Ok.weakAt {K : PySem.W.Frag} {TB : Tbs} : ∀ {l m : List Sl}, Weak l m → ∀ {w0 w : Wd} {σ : L2.St} (pre : List Sl), Ok K TB w0 w σ (pre ++ l) → ∃ w', w'.H = w.H ∧ FLe w.F w'.F ∧ Ok K TB w0 w' σ (pre ++ m)
  | _, _, .nil, w0, w, σ, pre, k => ⟨w, rfl, FLe.refl _, k⟩
  | _, _, .cons (s := s) (t := t) (l := l) (m := m) a b, w0, w, σ, pre, k => by
    have step : ∃ w', w'.H = w.H ∧ FLe w.F w'.F ∧ Ok K TB w0 w' σ (pre ++ t :: l) := by
      have es : ∀ u, (pre ++ s :: l).set pre.length u = pre ++ u :: l := fun u => by simp
      have eg : (pre ++ s :: l)[pre.length]? = some s := by simp
      cases a with
      | refl => exact ⟨w, rfl, FLe.refl _, k⟩
      | drop =>
        have := k.drop pre.length
        rw [es] at this
        exact ⟨w, rfl, FLe.refl _, this⟩
      | fz =>
        obtain ⟨p, s⟩ := k.ownAt eg
        obtain ⟨h, hp, hf, _, k1⟩ := k.fz eg s
        rw [es] at k1
        exact ⟨⟨upd w.F p h, w.H⟩, rfl, FLe.new hf, k1⟩
    obtain ⟨w1, e1, f1, k1⟩ := step
    have k2 : Ok K TB w0 w1 σ ((pre ++ [t]) ++ l) := by
      rw [List.append_assoc]
      exact k1
    obtain ⟨w2, e2, f2, k3⟩ := Ok.weakAt b (pre ++ [t]) k2
    rw [List.append_assoc] at k3
    exact ⟨w2, e2.trans e1, f1.trans f2, k3⟩
theorem Ok.weak {K : PySem.W.Frag} {TB : Tbs} {w0 w : Wd} {σ : L2.St} {l m : List Sl} (k : Ok K TB w0 w σ l) (h : Weak l m) : ∃ w', w'.H = w.H ∧ FLe w.F w'.F ∧ Ok K TB w0 w' σ m := Ok.weakAt h [] k
end Lw
set_option Elab.async false
set_option linter.all false
set_option maxRecDepth 100000
set_option maxHeartbeats 4000000
/-! # The judgements over data, expressions -/
namespace Lw
open PySem PySem.Spec PyProof.Rows L2

/-! ### runs -/
def RunE (X : Cx) (e : Expr) (σ : L2.St) (H : Hp) (Q : VK) : Prop := ∀ (pins : List (Addr × Obj)) (s : Shared), Inv X pins σ H s → wpAny (model X.prog X.w) X.A (eval e X.env) (EP X pins σ Q) X.xe s
def RunT (X : Cx) (e : Expr) (σ : L2.St) (H : Hp) (Q : Bool → Hp → Prop) : Prop := ∀ (pins : List (Addr × Obj)) (s : Shared), Inv X pins σ H s → wpAny (model X.prog X.w) X.A (isTrue e X.env (eval e X.env)) (TP X pins σ Q) X.xe s
def RunW (X : Cx) (e : Expr) (σ : L2.St) (H : Hp) (Q : Bool → Hp → Prop) : Prop := ∀ (whole : Sem Value) (pins : List (Addr × Obj)) (s : Shared), Inv X pins σ H s → wpAny (model X.prog X.w) X.A (isTrue e X.env whole) (TP X pins σ Q) X.xe s
def RunA (X : Cx) (es : List Expr) (σ : L2.St) (H : Hp) (Q : List V → Hp → Prop) : Prop := ∀ (pos : Pos) (pins : List (Addr × Obj)) (s : Shared), Inv X pins σ H s → wpAny (model X.prog X.w) X.A (spliced (backTo pos (starEach es X.env))) (AP X pins σ Q) X.xe s
def RunC (X : Cx) (op : CmpOp) (a b : Expr) (σ : L2.St) (H : Hp) (Q : VK) : Prop := ∀ (pins : List (Addr × Obj)) (s : Shared), Inv X pins σ H s →
    wpAny (model X.prog X.w) X.A (eval a X.env) (fun v s₁ => wpAny (model X.prog X.w) X.A (eval b X.env) (fun u s₂ => wpAny (model X.prog X.w) X.A (compareOp op v u) (EP X pins σ Q) X.xe s₂) X.xe s₁) X.xe s
def wC (X : Cx) (op : CmpOp) (a b : Expr) : TE := fun σ H Q => RunC X op a b σ H Q
def wE (X : Cx) (e : Expr) : TE := fun σ H Q => RunE X e σ H Q
def wT (X : Cx) (e : Expr) : TT := fun σ H Q => RunT X e σ H Q
def wW (X : Cx) (e : Expr) : TT := fun σ H Q => RunW X e σ H Q
def wA (X : Cx) (es : List Expr) : TA := fun σ H Q => RunA X es σ H Q
section
variable {X : Cx}
theorem pe_w (e : Expr) : PE X e (wE X e) := ⟨fun pins s σ H Q I h => h pins s I⟩
theorem pt_w (e : Expr) : PT X e (wT X e) := ⟨fun pins s σ H Q I h => h pins s I⟩
theorem pw_w (e : Expr) : PW X e (wW X e) := ⟨fun w pins s σ H Q I h => h w pins s I⟩
theorem pa_w (es : List Expr) : PA X es (wA X es) := ⟨fun pos pins s σ H Q I h => h pos pins s I⟩
theorem pc_w (op : CmpOp) (a b : Expr) : PC X op a b (wC X op a b) := ⟨fun pins s σ H Q I h => h pins s I⟩
theorem pc_op {op : CmpOp} {a b : Expr} {r : R2} (ho : OpR X (compareOp op) r) {ta tb : TE} (ha : PE X a ta) (hb : PE X b tb) : PC X op a b (tOp r ta tb) :=
  ⟨fun pins s σ H Q I h => binT ha hb I h fun v u s2 x y H2 I2 rx ry q => ho pins s2 σ H2 x y v u Q I2 rx ry q⟩
theorem runC {op : CmpOp} {a b : Expr} {t : TE} (h : PC X op a b t) {σ : L2.St} {H : Hp} {Q : VK} (q : t σ H Q) : RunC X op a b σ H Q := fun pins s I => h.run pins s σ H Q I q
theorem runE {e : Expr} {t : TE} (h : PE X e t) {σ : L2.St} {H : Hp} {Q : VK} (q : t σ H Q) : RunE X e σ H Q := fun pins s I => h.run pins s σ H Q I q
theorem runT {e : Expr} {t : TT} (h : PT X e t) {σ : L2.St} {H : Hp} {Q : Bool → Hp → Prop} (q : t σ H Q) : RunT X e σ H Q := fun pins s I => h.run pins s σ H Q I q
theorem runW {e : Expr} {t : TT} (h : PW X e t) {σ : L2.St} {H : Hp} {Q : Bool → Hp → Prop} (q : t σ H Q) : RunW X e σ H Q := fun w pins s I => h.run w pins s σ H Q I q
theorem runA {es : List Expr} {t : TA} (h : PA X es t) {σ : L2.St} {H : Hp} {Q : List V → Hp → Prop} (q : t σ H Q) : RunA X es σ H Q := fun pos pins s I => h.run pos pins s σ H Q I q
end

/-! ### the judgements -/
/-- e is the datum d -/
def PD (TB : Tbs) (X : Cx) (e : Expr) (env : List Sl) (d : D) : Prop := ∀ (w0 w : Wd) (σ : L2.St) (Q : VK), Ok X.K TB w0 w σ env → (∀ v w', Good TB w' → Le w w' → Rep X.K w'.F v d → Q v w'.H) → RunE X e σ w.H Q
/-- the test e answers b -/
def PTd (TB : Tbs) (X : Cx) (e : Expr) (env : List Sl) (b : Bool) : Prop := ∀ (w0 w : Wd) (σ : L2.St) (Q : Bool → Hp → Prop), Ok X.K TB w0 w σ env → (∀ w', Good TB w' → Le w w' → Q b w'.H) → RunT X e σ w.H Q
def PWd (TB : Tbs) (X : Cx) (e : Expr) (env : List Sl) (b : Bool) : Prop := ∀ (w0 w : Wd) (σ : L2.St) (Q : Bool → Hp → Prop), Ok X.K TB w0 w σ env → (∀ w', Good TB w' → Le w w' → Q b w'.H) → RunW X e σ w.H Q
/-- the comparison answers t -/
def PCd (TB : Tbs) (X : Cx) (op : CmpOp) (a b : Expr) (env : List Sl) (t : Bool) : Prop := ∀ (w0 w : Wd) (σ : L2.St) (Q : VK), Ok X.K TB w0 w σ env → (∀ w', Good TB w' → Le w w' → Q (.bl t) w'.H) → RunC X op a b σ w.H Q
/-- the arguments es are the data ds -/
def PDs (TB : Tbs) (X : Cx) (es : List Expr) (env : List Sl) (ds : List D) : Prop := ∀ (w0 w : Wd) (σ : L2.St) (Q : List V → Hp → Prop), Ok X.K TB w0 w σ env → (∀ vs w', Good TB w' → Le w w' → Reps X.K w'.F vs ds → Q vs w'.H) → RunA X es σ w.H Q

section
variable {TB : Tbs} {X : Cx} {env : List Sl} {a b c e : Expr} {es : List Expr} {d d1 d2 x y z : D} {ds : List D} {pos : Pos}

theorem PD.cast (h : PD TB X e env x) (q : x = y) : PD TB X e env y := q ▸ h
theorem PTd.cast {p q : Bool} (h : PTd TB X e env p) (k : p = q) : PTd TB X e env q := k ▸ h
theorem pds_nil : PDs TB X [] env [] := fun w0 w σ Q k q => runA pa_nil (q [] w k.good (Le.refl w) .nil)
theorem pds_cons (ha : PD TB X a env x) (hs : PDs TB X es env ds) (hst : starEach (a :: es) X.env = (false, eval a X.env) :: starEach es X.env := by rfl) : PDs TB X (a :: es) env (x :: ds) := fun w0 w σ Q k q =>
  runA (pa_cons (pe_w a) (pa_w es) hst) (ha w0 w σ _ k fun v w1 g1 l1 r1 => hs w0 w1 σ _ (k.mono g1 l1) fun vs w2 g2 l2 r2 => q (v :: vs) w2 g2 (l1.trans l2) (.cons (r1.mono l2.f) r2))

/-! ### names, constants -/
theorem pd_var (i : Nat) {n : Str} (h : env[i]? = some (Sl.d x) := by rfl) (hN : X.N[i]? = some n := by rfl) (hv : Vis X.env.scope n := by first | exact Or.inl rfl | exact Or.inr (Or.inl rfl) | exact Or.inr (Or.inr rfl))
    (hd : (n == ("__debug__" : Str)) = false := by decide) (hcd : (n == ("__classdict__" : Str)) = false := by decide) : PD TB X (.Name n pos) env x := fun w0 w σ Q k q => by
  obtain ⟨v, s, r⟩ := k.dat i x h
  exact runE (pe_var hN hv hd hcd) ⟨v, s, q v w k.good (Le.refl w) r⟩
theorem pd_int {i : Int} {j : Nat} : PD TB X (.Constant (.int i) j pos) env (.int i) := fun w0 w σ Q k q => runE pe_int (q _ w k.good (Le.refl w) .int)
theorem pd_bl {i : Bool} {j : Nat} : PD TB X (.Constant (.bool i) j pos) env (.bl i) := fun w0 w σ Q k q => runE pe_bl (q _ w k.good (Le.refl w) .bl)
theorem pd_non {j : Nat} : PD TB X (.Constant .none j pos) env .non := fun w0 w σ Q k q => runE pe_non (q _ w k.good (Le.refl w) .non)
theorem pd_str {s : Str} {j : Nat} : PD TB X (.Constant (.str s) j pos) env (.str s) := fun w0 w σ Q k q => runE pe_str (q _ w k.good (Le.refl w) .str)
/-- a module's constant -/
theorem pd_globI {n : Str} {i : Int} {t : Tok} (hm : X.mg n = some (.int i t)) (hg : Gl X n := by rfl) (hd : (n == ("__debug__" : Str)) = false := by decide) : PD TB X (.Name n pos) env (.int i) := fun w0 w σ Q k q =>
  runE (pe_glob (v := .int i) hg hm ⟨t, rfl⟩ hd) (q _ w k.good (Le.refl w) .int)
theorem pd_globS {n : Str} {i : Str} {t : Tok} (hm : X.mg n = some (.str i t)) (hg : Gl X n := by rfl) (hd : (n == ("__debug__" : Str)) = false := by decide) : PD TB X (.Name n pos) env (.str i) := fun w0 w σ Q k q =>
  runE (pe_glob (v := .str i) hg hm ⟨t, rfl⟩ hd) (q _ w k.good (Le.refl w) .str)
theorem pd_globT {n : Str} {p : Addr} {vs : List V} (hm : X.mg n = some (.ref p)) (hs : ∀ F, SqT X.K F p vs) (hr : ∀ F, Reps X.K F vs ds) (hg : Gl X n := by rfl) (hd : (n == ("__debug__" : Str)) = false := by decide) : PD TB X (.Name n pos) env (.tup ds) := fun w0 w σ Q k q =>
  runE (pe_glob (v := .ref p) hg hm rfl hd) (q _ w k.good (Le.refl w) (.tup (hs _) (hr _)))

/-! ### operators on ints -/
theorem pd_add {i j : Int} (ha : PD TB X a env (.int i)) (hb : PD TB X b env (.int j)) : PD TB X (.BinOp a .Add b pos) env (.int (i + j)) := fun w0 w σ Q k q =>
  runE (pe_op op_add (pe_w a) (pe_w b)) (ha w0 w σ _ k fun v w1 g1 l1 r1 => hb w0 w1 σ _ (k.mono g1 l1) fun u w2 g2 l2 r2 => by
    cases r1; cases r2
    exact ⟨i, j, rfl, rfl, q _ w2 g2 (l1.trans l2) .int⟩)
theorem pd_sub {i j : Int} (ha : PD TB X a env (.int i)) (hb : PD TB X b env (.int j)) : PD TB X (.BinOp a .Sub b pos) env (.int (i - j)) := fun w0 w σ Q k q =>
  runE (pe_op op_sub (pe_w a) (pe_w b)) (ha w0 w σ _ k fun v w1 g1 l1 r1 => hb w0 w1 σ _ (k.mono g1 l1) fun u w2 g2 l2 r2 => by
    cases r1; cases r2
    exact ⟨i, j, rfl, rfl, q _ w2 g2 (l1.trans l2) .int⟩)
theorem pd_mul {i j : Int} (ha : PD TB X a env (.int i)) (hb : PD TB X b env (.int j)) (h : CMul i j) : PD TB X (.BinOp a .Mult b pos) env (.int (i * j)) := fun w0 w σ Q k q =>
  runE (pe_op op_mul (pe_w a) (pe_w b)) (ha w0 w σ _ k fun v w1 g1 l1 r1 => hb w0 w1 σ _ (k.mono g1 l1) fun u w2 g2 l2 r2 => by
    cases r1; cases r2
    exact ⟨i, j, rfl, rfl, h, q _ w2 g2 (l1.trans l2) .int⟩)
theorem pd_fdiv {i j : Int} (ha : PD TB X a env (.int i)) (hb : PD TB X b env (.int j)) (h : CDiv i j) : PD TB X (.BinOp a .FloorDiv b pos) env (.int (i / j)) := fun w0 w σ Q k q =>
  runE (pe_op op_fdiv (pe_w a) (pe_w b)) (ha w0 w σ _ k fun v w1 g1 l1 r1 => hb w0 w1 σ _ (k.mono g1 l1) fun u w2 g2 l2 r2 => by
    cases r1; cases r2
    exact ⟨i, j, rfl, rfl, h, q _ w2 g2 (l1.trans l2) .int⟩)
theorem pd_mod {i j : Int} (ha : PD TB X a env (.int i)) (hb : PD TB X b env (.int j)) (h : 0 < j) : PD TB X (.BinOp a .Mod b pos) env (.int (i % j)) := fun w0 w σ Q k q =>
  runE (pe_op op_mod (pe_w a) (pe_w b)) (ha w0 w σ _ k fun v w1 g1 l1 r1 => hb w0 w1 σ _ (k.mono g1 l1) fun u w2 g2 l2 r2 => by
    cases r1; cases r2
    exact ⟨i, j, rfl, rfl, h, q _ w2 g2 (l1.trans l2) .int⟩)
theorem pd_neg {i : Int} (ha : PD TB X a env (.int i)) : PD TB X (.UnaryOp .USub a pos) env (.int (-i)) := fun w0 w σ Q k q =>
  runE (pe_un un_neg (pe_w a)) (ha w0 w σ _ k fun v w1 g1 l1 r1 => by
    cases r1
    exact ⟨i, rfl, q _ w1 g1 l1 .int⟩)
/-! ### comparisons -/
variable {t : Bool}
theorem pcd_of {op : CmpOp} {r : R2} (ho : OpR X (compareOp op) r) (ha : PD TB X a env x) (hb : PD TB X b env y)
    (h : ∀ (v u : V) (w2 : Wd) (Q : VK), Good TB w2 → Rep X.K w2.F v x → Rep X.K w2.F u y → Q (.bl t) w2.H → r v u w2.H Q) : PCd TB X op a b env t := fun w0 w σ Q k q =>
  runC (pc_op ho (pe_w a) (pe_w b)) (ha w0 w σ _ k fun v w1 g1 l1 r1 => hb w0 w1 σ _ (k.mono g1 l1) fun u w2 g2 l2 r2 => h v u w2 Q g2 (r1.mono l2.f) r2 (q w2 g2 (l1.trans l2)))
theorem pcd_int {op : CmpOp} {f : Int → Int → Bool} (ho : OpR X (compareOp op) (rI0 fun i j => .bl (f i j))) {i j : Int} (ha : PD TB X a env (.int i)) (hb : PD TB X b env (.int j)) : PCd TB X op a b env (f i j) :=
  pcd_of ho ha hb fun v u w2 Q g r1 r2 q => by
    cases r1; cases r2
    exact ⟨i, j, rfl, rfl, q⟩
theorem pcd_lt {i j : Int} (ha : PD TB X a env (.int i)) (hb : PD TB X b env (.int j)) : PCd TB X .Lt a b env (decide (i < j)) := pcd_int op_lt ha hb
theorem pcd_le {i j : Int} (ha : PD TB X a env (.int i)) (hb : PD TB X b env (.int j)) : PCd TB X .LtE a b env (decide (i ≤ j)) := pcd_int op_le ha hb
theorem pcd_gt {i j : Int} (ha : PD TB X a env (.int i)) (hb : PD TB X b env (.int j)) : PCd TB X .Gt a b env (decide (j < i)) := pcd_int op_gt ha hb
theorem pcd_ge {i j : Int} (ha : PD TB X a env (.int i)) (hb : PD TB X b env (.int j)) : PCd TB X .GtE a b env (decide (j ≤ i)) := pcd_int op_ge ha hb
/-- a comparison as a value, as a test -/
theorem pd_c {op : CmpOp} (h : PCd TB X op a b env t) (hm : behindInMarks op b = false := by first | exact nobehind _ (by decide) (by decide) | rfl) : PD TB X (.Compare a [op] [b] pos) env (.bl t) := fun w0 w σ Q k q =>
  runE (pe_cmp (pc_w op a b) hm) (h w0 w σ _ k fun w1 g1 l1 => q _ w1 g1 l1 .bl)
theorem pt_c {op : CmpOp} (h : PCd TB X op a b env t) (hm : behindInMarks op b = false := by first | exact nobehind _ (by decide) (by decide) | rfl) : PTd TB X (.Compare a [op] [b] pos) env t := fun w0 w σ Q k q =>
  runT (pt_cmp (pc_w op a b) hm) (h w0 w σ _ k fun w1 g1 l1 => ⟨t, rfl, q w1 g1 l1⟩)
/-- a <= b < c and its like, of ints -/
theorem pd_chain {op op' : CmpOp} {f g : Int → Int → Bool} (ho : OpR X (compareOp op) (rI0 fun i j => .bl (f i j))) (ho' : OpR X (compareOp op') (rI0 fun i j => .bl (g i j))) {i j l : Int}
    (ha : PD TB X a env (.int i)) (hb : PD TB X b env (.int j)) (hc : PD TB X c env (.int l)) (hm : lastMarks [op, op'] [b, c] = false := by with_unfolding_all rfl) : PD TB X (.Compare a [op, op'] [b, c] pos) env (.bl (f i j && g j l)) := fun w0 w σ Q k q =>
  runE (pe_chain ho ho' (pe_w a) (pe_w b) (pe_w c) hm) (ha w0 w σ _ k fun v w1 g1 l1 r1 => hb w0 w1 σ _ (k.mono g1 l1) fun u w2 g2 l2 r2 => by
    cases r1; cases r2
    refine ⟨i, j, rfl, rfl, f i j, rfl, ?_⟩
    cases hf : f i j with
    | true =>
      refine iteT (hc w0 w2 σ _ ((k.mono g1 l1).mono g2 l2) fun t w3 g3 l3 r3 => ?_)
      cases r3
      have := q (.bl (g j l)) w3 g3 ((l1.trans l2).trans l3)
      rw [hf, Bool.true_and] at this
      exact ⟨j, l, rfl, rfl, this .bl⟩
    | false =>
      have := q (.bl false) w2 g2 (l1.trans l2)
      rw [hf, Bool.false_and] at this
      exact iteF (this .bl))
theorem pt_chain' {op op' : CmpOp} {f g : Int → Int → Bool} (ho : OpR X (compareOp op) (rI0 fun i j => .bl (f i j))) (ho' : OpR X (compareOp op') (rI0 fun i j => .bl (g i j))) {i j l : Int}
    (ha : PD TB X a env (.int i)) (hb : PD TB X b env (.int j)) (hc : PD TB X c env (.int l)) (hm : lastMarks [op, op'] [b, c] = false := by with_unfolding_all rfl) : PTd TB X (.Compare a [op, op'] [b, c] pos) env (f i j && g j l) := fun w0 w σ Q k q =>
  runT (pt_chain ho ho' (pe_w a) (pe_w b) (pe_w c) hm) (ha w0 w σ _ k fun v w1 g1 l1 r1 => hb w0 w1 σ _ (k.mono g1 l1) fun u w2 g2 l2 r2 => by
    cases r1; cases r2
    refine ⟨i, j, rfl, rfl, f i j, rfl, ?_⟩
    cases hf : f i j with
    | true =>
      refine iteT (hc w0 w2 σ _ ((k.mono g1 l1).mono g2 l2) fun t w3 g3 l3 r3 => ?_)
      cases r3
      have := q w3 g3 ((l1.trans l2).trans l3)
      rw [hf, Bool.true_and] at this
      exact ⟨j, l, rfl, rfl, g j l, rfl, this⟩
    | false =>
      have := q w2 g2 (l1.trans l2)
      rw [hf, Bool.false_and] at this
      exact iteF ⟨false, rfl, this⟩)
/-! ### None -/
def isNon : D → Bool
  | .non => true
  | _ => false
theorem Rep.isNon {K : PySem.W.Frag} {F : Hp} {v : V} {d : D} (r : Rep K F v d) : decide (v = .non) = Lw.isNon d := by
  cases r <;> rfl
theorem pcd_isN {j : Nat} {p2 : Pos} (ha : PD TB X a env x) : PCd TB X .Is a (.Constant .none j p2) env (isNon x) := fun w0 w σ Q k q =>
  runC (pc_isN (pe_w a)) (ha w0 w σ _ k fun v w1 g1 l1 r1 => by
    rw [r1.isNon]
    exact q w1 g1 l1)
theorem pcd_notN {j : Nat} {p2 : Pos} (ha : PD TB X a env x) : PCd TB X .IsNot a (.Constant .none j p2) env (!isNon x) := fun w0 w σ Q k q =>
  runC (pc_notN (pe_w a)) (ha w0 w σ _ k fun v w1 g1 l1 r1 => by
    rw [r1.isNon]
    exact q w1 g1 l1)
end

/-! ### == of plain data -/
mutual
def toPy : D → PyData
  | .non => .none
  | .bl b => .bool b
  | .int i => .int i
  | .str x => .str x
  | .lst xs => .list (toPys xs)
  | .tup xs => .tuple (toPys xs)
  | .ins _ _ _ => .none
  | .dic _ _ => .none
def toPys : List D → List PyData
  | [] => []
  | x :: xs => toPy x :: toPys xs
end
/-- plain: None, ints, texts, lists and tuples of these, to a depth -/
def pln : Nat → D → Bool
  | _, .non => true
  | _, .int _ => true
  | _, .str x => PyData.strOk x
  | n + 1, .lst xs => xs.all (pln n)
  | n + 1, .tup xs => xs.all (pln n)
  | _, _ => false
theorem toPy_lst (xs : List D) : toPy (.lst xs) = .list (toPys xs) := by simp only [toPy]
theorem toPy_tup (xs : List D) : toPy (.tup xs) = .tuple (toPys xs) := by simp only [toPy]
theorem toPys_cons (x : D) (xs : List D) : toPys (x :: xs) = toPy x :: toPys xs := by simp only [toPys]
theorem pln_shape : ∀ (n : Nat) (d : D), pln n d = true → (toPy d).canLay0 = true ∧ (toPy d).depth ≤ n := by
  intro n
  induction n with
  | zero =>
    intro d h
    cases d <;> first | (simp [pln] at h; done) | skip
    · exact ⟨by simp [toPy, PyData.canLay0], by simp [toPy, PyData.depth]⟩
    · exact ⟨by simp [toPy, PyData.canLay0], by simp [toPy, PyData.depth]⟩
    · exact ⟨by simpa [toPy, PyData.canLay0, pln] using h, by simp [toPy, PyData.depth]⟩
  | succ n ih =>
    have all : ∀ xs : List D, xs.all (pln n) = true → PyData.canLayAll0 (toPys xs) = true ∧ PyData.depthAll (toPys xs) ≤ n := by
      intro xs
      induction xs with
      | nil => exact fun _ => ⟨by simp [toPys, PyData.canLayAll0], by simp [toPys, PyData.depthAll]⟩
      | cons x xs ihx =>
        intro h
        rw [List.all_cons, Bool.and_eq_true] at h
        obtain ⟨a1, a2⟩ := ih x h.1
        obtain ⟨b1, b2⟩ := ihx h.2
        refine ⟨by simp [toPys, PyData.canLayAll0, a1, b1], ?_⟩
        simp only [toPys, PyData.depthAll]
        exact Nat.max_le.mpr ⟨a2, b2⟩
    intro d h
    cases d with
    | non => exact ⟨by simp [toPy, PyData.canLay0], by simp [toPy, PyData.depth]⟩
    | bl b => simp [pln] at h
    | int i => exact ⟨by simp [toPy, PyData.canLay0], by simp [toPy, PyData.depth]⟩
    | str x => exact ⟨by simpa [toPy, PyData.canLay0, pln] using h, by simp [toPy, PyData.depth]⟩
    | lst xs =>
      obtain ⟨a, b⟩ := all xs h
      exact ⟨by simpa [toPy, PyData.canLay0] using a, by simp only [toPy, PyData.depth]; omega⟩
    | tup xs =>
      obtain ⟨a, b⟩ := all xs h
      exact ⟨by simpa [toPy, PyData.canLay0] using a, by simp only [toPy, PyData.depth]; omega⟩
    | ins _ _ _ => simp [pln] at h
    | dic _ _ => simp [pln] at h
theorem pln_shaped {d : D} (h : pln 60 d = true) : SeqAt.shaped (toPy d) = true := by
  obtain ⟨a, b⟩ := pln_shape 60 d h
  unfold SeqAt.shaped
  rw [a, Bool.true_and]
  exact decide_eq_true (by omega)
theorem pln_eqv : ∀ (n : Nat) (d e : D), pln n d = true → pln n e = true → (PyData.eqv (toPy d) (toPy e) = true ↔ d = e) := by
  intro n
  induction n with
  | zero =>
    intro d e h k
    cases d <;> cases e <;> simp_all [pln, toPy, PyData.eqv]
  | succ n ih =>
    have all : ∀ xs ys : List D, xs.all (pln n) = true → ys.all (pln n) = true → (PyData.eqvAll (toPys xs) (toPys ys) = true ↔ xs = ys) := by
      intro xs
      induction xs with
      | nil =>
        intro ys _ _
        cases ys <;> simp [toPys, PyData.eqvAll]
      | cons x xs ihx =>
        intro ys h k
        cases ys with
        | nil => simp [toPys, PyData.eqvAll]
        | cons y ys =>
          rw [List.all_cons, Bool.and_eq_true] at h k
          simp only [toPys, PyData.eqvAll, Bool.and_eq_true, ih x y h.1 k.1, ihx ys h.2 k.2, List.cons.injEq]
    intro d e h k
    cases d with
    | lst xs =>
      cases e with
      | lst ys =>
        simp only [toPy, PyData.eqv, D.lst.injEq]
        exact all xs ys h k
      | _ => simp_all [pln, toPy, PyData.eqv]
    | tup xs =>
      cases e with
      | tup ys =>
        simp only [toPy, PyData.eqv, D.tup.injEq]
        exact all xs ys h k
      | _ => simp_all [pln, toPy, PyData.eqv]
    | _ => cases e <;> simp_all [pln, toPy, PyData.eqv]
theorem pln_dp {K : PySem.W.Frag} {F H : Hp} (fl : FLe F H) : ∀ (n : Nat) (d : D) (v : V), pln n d = true → Rep K F v d → Dp K H v (toPy d) := by
  intro n
  induction n with
  | zero =>
    intro d v h r
    cases r <;> first | (simp [pln] at h; done) | skip
    · simpa [toPy] using Dp.non
    · simpa [toPy] using Dp.int _
    · simpa [toPy] using Dp.str _
  | succ n ih =>
    have all : ∀ (ds : List D) (vs : List V), ds.all (pln n) = true → Reps K F vs ds → DpAll K H vs (toPys ds) := by
      intro ds
      induction ds with
      | nil =>
        intro vs _ r
        cases r
        simpa [toPys] using DpAll.nil
      | cons x xs ihx =>
        intro vs h r
        rw [List.all_cons, Bool.and_eq_true] at h
        cases r with
        | cons r1 r2 =>
          simp only [toPys]
          exact DpAll.cons (ih x _ h.1 r1) (ihx _ h.2 r2)
    intro d v h r
    cases r with
    | non => simpa [toPy] using Dp.non
    | bl => simp [pln] at h
    | int => simpa [toPy] using Dp.int _
    | str => simpa [toPy] using Dp.str _
    | lst h1 h2 =>
      simp only [toPy]
      exact Dp.lst (.inl (.inl (fl _ _ h1))) (all _ _ h h2)
    | tup h1 h2 =>
      simp only [toPy]
      exact Dp.tup (fl.sqt h1) (all _ _ h h2)
    | ins _ _ _ => simp [pln] at h
    | dic _ _ _ => simp [pln] at h
section
variable {TB : Tbs} {X : Cx} {env : List Sl} {a b c e : Expr} {es : List Expr} {d d1 d2 x y z : D} {ds : List D} {pos : Pos} {t : Bool}
theorem pcd_eq (hu : X.A.units + 64 < cLine) (ha : PD TB X a env x) (hb : PD TB X b env y) (hx : pln 60 x = true) (hy : pln 60 y = true) (h : t = true ↔ x = y) : PCd TB X .Eq a b env t :=
  pcd_of (op_eqD hu) ha hb fun v u w2 Q g r1 r2 q => by
    refine ⟨toPy x, toPy y, pln_dp g.sub 60 x v hx r1, pln_dp g.sub 60 y u hy r2, pln_shaped hx, pln_shaped hy, ?_⟩
    have e : PyData.eqv (toPy x) (toPy y) = t := by
      rw [Bool.eq_iff_iff, pln_eqv 60 x y hx hy, h]
    rw [e]
    exact q
theorem pcd_ne (hu : X.A.units + 64 < cLine) (ha : PD TB X a env x) (hb : PD TB X b env y) (hx : pln 60 x = true) (hy : pln 60 y = true) (h : t = true ↔ x = y) : PCd TB X .NotEq a b env (!t) :=
  pcd_of (op_neD hu) ha hb fun v u w2 Q g r1 r2 q => by
    refine ⟨toPy x, toPy y, pln_dp g.sub 60 x v hx r1, pln_dp g.sub 60 y u hy r2, pln_shaped hx, pln_shaped hy, ?_⟩
    have e : PyData.eqv (toPy x) (toPy y) = t := by
      rw [Bool.eq_iff_iff, pln_eqv 60 x y hx hy, h]
    rw [e]
    exact q
theorem dV_int (i j : Int) : decide (V.int i = V.int j) = decide (i = j) := decide_eq_decide.mpr ⟨fun z => V.int.inj z, fun z => z ▸ rfl⟩
theorem dV_str (i j : Str) : decide (V.str i = V.str j) = decide (i = j) := decide_eq_decide.mpr ⟨fun z => V.str.inj z, fun z => z ▸ rfl⟩
theorem pcd_eqI {i j : Int} (ha : PD TB X a env (.int i)) (hb : PD TB X b env (.int j)) : PCd TB X .Eq a b env (decide (i = j)) :=
  pcd_of op_eq ha hb fun v u w2 Q g r1 r2 q => by
    cases r1; cases r2
    exact ⟨rfl, by rw [dV_int]; exact q⟩
theorem pcd_neI {i j : Int} (ha : PD TB X a env (.int i)) (hb : PD TB X b env (.int j)) : PCd TB X .NotEq a b env (!decide (i = j)) :=
  pcd_of op_ne ha hb fun v u w2 Q g r1 r2 q => by
    cases r1; cases r2
    exact ⟨rfl, by rw [dV_int]; exact q⟩
theorem pcd_eqS {i j : Str} (ha : PD TB X a env (.str i)) (hb : PD TB X b env (.str j)) : PCd TB X .Eq a b env (decide (i = j)) :=
  pcd_of op_eq ha hb fun v u w2 Q g r1 r2 q => by
    cases r1; cases r2
    exact ⟨rfl, by rw [dV_str]; exact q⟩
theorem pcd_eqB {i j : Bool} (ha : PD TB X a env (.bl i)) (hb : PD TB X b env (.bl j)) : PCd TB X .Eq a b env (i == j) :=
  pcd_of op_eq ha hb fun v u w2 Q g r1 r2 q => by
    cases r1; cases r2
    exact ⟨rfl, by rw [show decide (V.bl i = V.bl j) = (i == j) from by cases i <;> cases j <;> rfl]; exact q⟩
theorem pcd_neB {i j : Bool} (ha : PD TB X a env (.bl i)) (hb : PD TB X b env (.bl j)) : PCd TB X .NotEq a b env (!(i == j)) :=
  pcd_of op_ne ha hb fun v u w2 Q g r1 r2 q => by
    cases r1; cases r2
    exact ⟨rfl, by rw [show decide (V.bl i = V.bl j) = (i == j) from by cases i <;> cases j <;> rfl]; exact q⟩
/-! ### in -/
theorem in_reps {K : PySem.W.Frag} {F G : Hp} {v : V} {x : D} (rx : Rep K F v x) (hx : pln 0 x = true) : ∀ {vs : List V} {ds : List D}, Reps K G vs ds → ds.all (pln 0) = true → vs.all flatV = true ∧ (inV v vs = true ↔ x ∈ ds)
  | _, _, .nil, _ => ⟨rfl, by simp [inV]⟩
  | u :: vs, y :: ds, .cons r t, h => by
    rw [List.all_cons, Bool.and_eq_true] at h
    obtain ⟨a1, a2⟩ := in_reps rx hx t h.2
    have fu : flatV u = true ∧ (eqV u v = true ↔ y = x) := by
      cases r <;> cases rx <;> first | (simp [pln] at h; done) | (simp [pln] at hx; done) | (constructor <;> simp [flatV, eqV])
    constructor
    · rw [List.all_cons, fu.1, a1]
      rfl
    · have e : inV v (u :: vs) = (eqV u v || inV v vs) := by simp [inV]
      rw [e, Bool.or_eq_true, fu.2, a2, List.mem_cons]
      constructor
      · rintro (z | z)
        · exact .inl z.symm
        · exact .inr z
      · rintro (z | z)
        · exact .inl z.symm
        · exact .inr z
theorem flatV_of {K : PySem.W.Frag} {F : Hp} {v : V} {x : D} (rx : Rep K F v x) (hx : pln 0 x = true) : flatV v = true := by
  cases rx <;> first | (simp [pln] at hx; done) | rfl
theorem in_fin {K : PySem.W.Frag} {w2 : Wd} {v u : V} (g : Good TB w2) (r1 : Rep K w2.F v x) (r2 : Rep K w2.F u y) (hy : y = .lst ds ∨ y = .tup ds) (hx : pln 0 x = true) (hs : ds.all (pln 0) = true) (h : t = true ↔ x ∈ ds) :
    ∃ p xs, u = .ref p ∧ (SqL K w2.H p xs ∨ SqT K w2.H p xs) ∧ flatV v = true ∧ xs.all flatV = true ∧ inV v xs = t := by
  have fin : ∀ (vs : List V), Reps K w2.F vs ds → vs.all flatV = true ∧ inV v vs = t := fun vs rs => by
    obtain ⟨c1, c2⟩ := in_reps r1 hx rs hs
    exact ⟨c1, by rw [Bool.eq_iff_iff, c2, h]⟩
  rcases hy with rfl | rfl
  · cases r2 with
    | lst h1 h2 => exact ⟨_, _, rfl, .inl (.inl (.inl (g.sub _ _ h1))), flatV_of r1 hx, fin _ h2⟩
  · cases r2 with
    | tup h1 h2 => exact ⟨_, _, rfl, .inr (g.sub.sqt h1), flatV_of r1 hx, fin _ h2⟩
theorem pcd_in (ha : PD TB X a env x) (hb : PD TB X b env y) (hy : y = .lst ds ∨ y = .tup ds) (hx : pln 0 x = true) (hs : ds.all (pln 0) = true) (h : t = true ↔ x ∈ ds) : PCd TB X .In a b env t :=
  pcd_of op_in_seq ha hb fun v u w2 Q g r1 r2 q => by
    obtain ⟨p, xs, e, h1, h2, h3, h4⟩ := in_fin g r1 r2 hy hx hs h
    refine ⟨p, xs, e, h1, h2, h3, ?_⟩
    show Q (.bl (inV v xs)) w2.H
    rw [h4]
    exact q
theorem pcd_notIn (ha : PD TB X a env x) (hb : PD TB X b env y) (hy : y = .lst ds ∨ y = .tup ds) (hx : pln 0 x = true) (hs : ds.all (pln 0) = true) (h : t = true ↔ x ∈ ds) : PCd TB X .NotIn a b env (!t) :=
  pcd_of op_notIn_seq ha hb fun v u w2 Q g r1 r2 q => by
    obtain ⟨p, xs, e, h1, h2, h3, h4⟩ := in_fin g r1 r2 hy hx hs h
    refine ⟨p, xs, e, h1, h2, h3, ?_⟩
    show Q (.bl (!inV v xs)) w2.H
    rw [h4]
    exact q
/-! ### tests -/
theorem pt_v (h : PD TB X e env (.bl t)) (he : ∀ whole, isTrue e X.env whole = (do let v ← whole; standAt e.pos; holding [v] (truthy v)) := by intro _; rfl) : PTd TB X e env t := fun w0 w σ Q k q =>
  runT (pt_val (pe_w e) he) (h w0 w σ _ k fun v w1 g1 l1 r1 => by
    cases r1
    exact ⟨t, rfl, q w1 g1 l1⟩)
variable {rest : List Expr} {p q : Bool}
theorem pw_t (h : PWd TB X e env t) : PTd TB X e env t := fun w0 w σ Q k q => runT (PW.pt (pw_w e)) (h w0 w σ Q k q)
theorem pwd_and1 (h : PTd TB X a env t) : PWd TB X (.BoolOp .And [a] pos) env t := fun w0 w σ Q k q => runW (pw_and1 (pt_w a)) (h w0 w σ Q k q)
theorem pwd_or1 (h : PTd TB X a env t) : PWd TB X (.BoolOp .Or [a] pos) env t := fun w0 w σ Q k q => runW (pw_or1 (pt_w a)) (h w0 w σ Q k q)
theorem pwd_and (h : PTd TB X a env p) (h2 : p = true → PWd TB X (.BoolOp .And (b :: rest) pos) env q) : PWd TB X (.BoolOp .And (a :: b :: rest) pos) env (p && q) := fun w0 w σ Q k qq =>
  runW (pw_and (pt_w a) (pw_w _)) (h w0 w σ _ k fun w1 g1 l1 => by
    cases p with
    | true => exact iteT (h2 rfl w0 w1 σ Q (k.mono g1 l1) fun w2 g2 l2 => qq w2 g2 (l1.trans l2))
    | false => exact iteF (qq w1 g1 l1))
theorem pwd_or (h : PTd TB X a env p) (h2 : p = false → PWd TB X (.BoolOp .Or (b :: rest) pos) env q) : PWd TB X (.BoolOp .Or (a :: b :: rest) pos) env (p || q) := fun w0 w σ Q k qq =>
  runW (pw_or (pt_w a) (pw_w _)) (h w0 w σ _ k fun w1 g1 l1 => by
    cases p with
    | true => exact iteT (qq w1 g1 l1)
    | false => exact iteF (h2 rfl w0 w1 σ Q (k.mono g1 l1) fun w2 g2 l2 => qq w2 g2 (l1.trans l2)))
theorem pt_not' (h : PTd TB X a env p) : PTd TB X (.UnaryOp .Not a pos) env (!p) := fun w0 w σ Q k q => runT (pt_not (pt_w a)) (h w0 w σ _ k fun w1 g1 l1 => q w1 g1 l1)
/-- and, or, not as values -/
theorem pd_one {op : BoolOp} (h : PD TB X a env x) : PD TB X (.BoolOp op [a] pos) env x := fun w0 w σ Q k q => runE (pe_one (pe_w a)) (h w0 w σ Q k q)
theorem pd_and (h : PD TB X a env (.bl p)) (h2 : p = true → PD TB X (.BoolOp .And (b :: rest) pos) env (.bl q)) : PD TB X (.BoolOp .And (a :: b :: rest) pos) env (.bl (p && q)) := fun w0 w σ Q k qq =>
  runE (pe_and (pe_w a) (pe_w _)) (h w0 w σ _ k fun v w1 g1 l1 r1 => by
    cases r1
    refine ⟨p, rfl, ?_⟩
    cases p with
    | true => exact iteT (h2 rfl w0 w1 σ Q (k.mono g1 l1) fun v w2 g2 l2 r2 => qq v w2 g2 (l1.trans l2) r2)
    | false => exact iteF (qq _ w1 g1 l1 .bl))
theorem pd_or (h : PD TB X a env (.bl p)) (h2 : p = false → PD TB X (.BoolOp .Or (b :: rest) pos) env (.bl q)) : PD TB X (.BoolOp .Or (a :: b :: rest) pos) env (.bl (p || q)) := fun w0 w σ Q k qq =>
  runE (pe_or (pe_w a) (pe_w _)) (h w0 w σ _ k fun v w1 g1 l1 r1 => by
    cases r1
    refine ⟨p, rfl, ?_⟩
    cases p with
    | true => exact iteT (qq _ w1 g1 l1 .bl)
    | false => exact iteF (h2 rfl w0 w1 σ Q (k.mono g1 l1) fun v w2 g2 l2 r2 => qq v w2 g2 (l1.trans l2) r2))
theorem pd_not (h : PD TB X a env (.bl p)) : PD TB X (.UnaryOp .Not a pos) env (.bl (!p)) := fun w0 w σ Q k q => runE (pe_not (pe_w a)) (h w0 w σ _ k fun v w1 g1 l1 r1 => by
    cases r1
    exact ⟨p, rfl, q _ w1 g1 l1 .bl⟩)
theorem pd_if (h : PTd TB X c env p) (ha : p = true → PD TB X a env x) (hb : p = false → PD TB X b env x) : PD TB X (.IfExp c a b pos) env x := fun w0 w σ Q k q =>
  runE (pe_ifExp (pt_w c) (pe_w a) (pe_w b)) (h w0 w σ _ k fun w1 g1 l1 => by
    cases p with
    | true => exact iteT (ha rfl w0 w1 σ Q (k.mono g1 l1) fun v w2 g2 l2 r2 => q v w2 g2 (l1.trans l2) r2)
    | false => exact iteF (hb rfl w0 w1 σ Q (k.mono g1 l1) fun v w2 g2 l2 r2 => q v w2 g2 (l1.trans l2) r2))
end
end Lw
set_option Elab.async false
set_option linter.all false
set_option maxRecDepth 100000
set_option maxHeartbeats 4000000
/-! # Expressions: lists, tuples, built-ins, calls, fields -/
namespace Lw
open PySem PySem.Spec PyProof.Rows L2
theorem size_small {n : Nat} (h : n ≤ 100000) : n ≤ sizeLine := Nat.le_trans h (by decide)
theorem size_lt {n : Nat} (h : n < 100000) : n < sizeLine := Nat.lt_of_lt_of_le h (by decide)
section
variable {TB : Tbs} {X : Cx} {env : List Sl} {a b c e : Expr} {es : List Expr} {d d1 d2 x y z : D} {ds xs ys : List D} {pos : Pos} {t : Bool}

/-- a new list, a new tuple that stands for ever -/
theorem newL {w : Wd} {vs : List V} {Q : VK} (g : Good TB w) (r : Reps X.K w.F vs ds) (q : ∀ v w', Good TB w' → Le w w' → Rep X.K w'.F v (.lst ds) → Q v w'.H) : ∀ p, w.H p = none → Q (.ref p) (upd w.H p (.lst vs)) := fun p hp => by
  have hf := g.fresh hp
  exact q (.ref p) ⟨upd w.F p (.lst vs), upd w.H p (.lst vs)⟩ (g.new hp fun _ z => by cases z) (Le.new hp hf) (.lst upd_same (r.mono (FLe.new hf)))
theorem newT {w : Wd} {vs : List V} {Q : VK} (g : Good TB w) (r : Reps X.K w.F vs ds) (q : ∀ v w', Good TB w' → Le w w' → Rep X.K w'.F v (.tup ds) → Q v w'.H) : ∀ p, w.H p = none → Q (.ref p) (upd w.H p (.tup vs)) := fun p hp => by
  have hf := g.fresh hp
  exact q (.ref p) ⟨upd w.F p (.tup vs), upd w.H p (.tup vs)⟩ (g.new hp fun _ z => by cases z) (Le.new hp hf) (.tup (.inl (.inl upd_same)) (r.mono (FLe.new hf)))
theorem qle {w w1 : Wd} {Q : VK} (l : Le w w1) (q : ∀ v w', Good TB w' → Le w w' → Rep X.K w'.F v x → Q v w'.H) : ∀ v w', Good TB w' → Le w1 w' → Rep X.K w'.F v x → Q v w'.H := fun v w' g l' r => q v w' g (l.trans l') r

/-! ### displays -/
theorem pd_lst (h : PDs TB X es env ds) (hl : ds.length ≤ 100000 := by first | decide | (simp only [List.length_cons, List.length_nil]; omega)) : PD TB X (.List es pos) env (.lst ds) := fun w0 w σ Q k q =>
  runE (pe_lst (pa_w es)) (h w0 w σ _ k fun vs w1 g1 l1 r1 => ⟨by rw [r1.length]; exact size_small hl, newL g1 r1 (qle l1 q)⟩)
theorem pd_tup {j : Nat} (h : PDs TB X es env ds) (hl : ds.length ≤ 100000 := by first | decide | (simp only [List.length_cons, List.length_nil]; omega)) : PD TB X (.Tuple es j pos) env (.tup ds) := fun w0 w σ Q k q =>
  runE (pe_tup (pa_w es)) (h w0 w σ _ k fun vs w1 g1 l1 r1 => ⟨by rw [r1.length]; exact size_small hl, newT g1 r1 (qle l1 q)⟩)
theorem pds_star {p : Pos} (ha : PD TB X a env (.lst xs)) (hs : PDs TB X es env ds) (hst : starEach (.Starred a p :: es) X.env = (true, eval a X.env) :: starEach es X.env := by rfl) : PDs TB X (.Starred a p :: es) env (xs ++ ds) := fun w0 w σ Q k q =>
  runA (StX.pa_star (pe_w a) (pa_w es) hst) (ha w0 w σ _ k fun v w1 g1 l1 r1 => by
    cases r1 with
    | lst h1 h2 => exact ⟨_, _, rfl, .inr (.inl (.inl (g1.sub _ _ h1))), hs w0 w1 σ _ (k.mono g1 l1) fun vs w2 g2 l2 r2 => q _ w2 g2 (l1.trans l2) ((h2.mono l2.f).append r2)⟩)

/-! ### items -/
theorem reps_at {K : PySem.W.Frag} {F : Hp} {vs : List V} {i : Int} (r : Reps K F vs ds) (h : atI ds i = some d) : ∃ v, atI vs i = some v ∧ Rep K F v d := by
  unfold atI at h ⊢
  rw [r.length]
  cases q : ixN ds.length i with
  | none => rw [q] at h; cases h
  | some j =>
    rw [q] at h
    exact r.get h
theorem pd_ix {i : Int} (ha : PD TB X a env x) (hb : PD TB X b env (.int i)) (hx : x = .lst ds ∨ x = .tup ds) (h : atI ds i = some d) (hs : PlainIx b := by exact fun _ _ => rfl) : PD TB X (.Subscript a b pos) env d := fun w0 w σ Q k q =>
  runE (pe_ix (ix_list.or ix_tup) (pe_w a) (pe_w b) hs) (ha w0 w σ _ k fun v w1 g1 l1 r1 => hb w0 w1 σ _ (k.mono g1 l1) fun u w2 g2 l2 r2 => by
    cases r2
    rcases hx with rfl | rfl
    · cases r1 with
      | lst h1 h2 =>
        obtain ⟨v, e, r⟩ := reps_at (h2.mono l2.f) h
        exact .inl ⟨_, _, i, v, rfl, rfl, .inl (.inl (g2.sub _ _ (l2.f _ _ h1))), e, q v w2 g2 (l1.trans l2) r⟩
    · cases r1 with
      | tup h1 h2 =>
        obtain ⟨v, e, r⟩ := reps_at (h2.mono l2.f) h
        exact .inr ⟨_, _, i, v, rfl, rfl, g2.sub.sqt (l2.f.sqt h1), e, q v w2 g2 (l1.trans l2) r⟩)
theorem pd_ixS {i : Int} {s : Str} {n : Nat} (ha : PD TB X a env (.str s)) (hb : PD TB X b env (.int i)) (hl : s.length ≤ 100000) (h : atI s.cps.toList i = some n) (hs : PlainIx b := by exact fun _ _ => rfl) : PD TB X (.Subscript a b pos) env (.str ⟨#[n]⟩) := fun w0 w σ Q k q =>
  runE (pe_ix ix_str (pe_w a) (pe_w b) hs) (ha w0 w σ _ k fun v w1 g1 l1 r1 => hb w0 w1 σ _ (k.mono g1 l1) fun u w2 g2 l2 r2 => by
    cases r1; cases r2
    exact ⟨s, i, n, rfl, rfl, size_small hl, h, q _ w2 g2 (l1.trans l2) .str⟩)
/-- a slice -/
def cut {α : Type} (xs : List α) (lo hi : Option Int) : List α := (xs.drop (HT.sIx xs.length 0 lo)).take (HT.sIx xs.length xs.length hi - HT.sIx xs.length 0 lo)
theorem cut_from {α : Type} (xs : List α) (n : Nat) : cut xs (some (n : Int)) none = xs.drop n := by
  unfold cut
  rw [HT.sIx_nat, HT.sIx_none]
  by_cases h : n ≤ xs.length
  · rw [Nat.min_eq_left h]
    exact List.take_of_length_le (by rw [List.length_drop]; omega)
  · rw [Nat.min_eq_right (by omega), List.drop_eq_nil_of_le (Nat.le_refl _), List.drop_eq_nil_of_le (by omega)]
    simp
theorem cut_to {α : Type} (xs : List α) (n : Nat) : cut xs none (some (n : Int)) = xs.take n := by
  unfold cut
  rw [HT.sIx_nat, HT.sIx_none, List.drop_zero, Nat.sub_zero]
  by_cases h : n ≤ xs.length
  · rw [Nat.min_eq_left h]
  · rw [Nat.min_eq_right (by omega), List.take_of_length_le (Nat.le_refl _), List.take_of_length_le (by omega)]
theorem cut_both {α : Type} (xs : List α) (m n : Nat) : cut xs (some (m : Int)) (some (n : Int)) = (xs.drop m).take (n - m) := by
  unfold cut
  rw [HT.sIx_nat, HT.sIx_nat]
  by_cases h : m ≤ xs.length
  · rw [Nat.min_eq_left h]
    by_cases h2 : n ≤ xs.length
    · rw [Nat.min_eq_left h2]
    · rw [Nat.min_eq_right (Nat.le_of_not_le h2), List.take_of_length_le (by rw [List.length_drop]; exact Nat.le_refl _), List.take_of_length_le (by rw [List.length_drop]; omega)]
  · have e1 : min m xs.length = xs.length := Nat.min_eq_right (Nat.le_of_not_le h)
    rw [e1, List.drop_eq_nil_of_le (Nat.le_refl xs.length), List.drop_eq_nil_of_le (Nat.le_of_not_le h)]
    simp
theorem cut_length {α : Type} (xs : List α) (lo hi : Option Int) : (cut xs lo hi).length ≤ xs.length := by
  unfold cut
  rw [List.length_take, List.length_drop]
  omega
def POd (TB : Tbs) (X : Cx) (e : Option Expr) (env : List Sl) (o : Option Int) : Prop := ∀ (w0 w : Wd) (σ : L2.St) (Q : Option Int → Hp → Prop), Ok X.K TB w0 w σ env → (∀ w', Good TB w' → Le w w' → Q o w'.H) →
  ∀ (pins : List (Addr × Obj)) (s : Shared), Inv X pins σ w.H s → wpAny (model X.prog X.w) X.A (evalPart e X.env) (fun u s' => ∃ o H', Inv X pins σ H' s' ∧ IsPart u o ∧ Q o H') X.xe s
theorem po_no : POd TB X none env none := fun w0 w σ Q k q pins s I => po_none.run pins s σ w.H Q I (q w k.good (Le.refl w))
theorem po_so {i : Int} (h : PD TB X e env (.int i)) : POd TB X (some e) env (some i) := fun w0 w σ Q k q pins s I => (po_some (pe_w e)).run pins s σ w.H Q I (h w0 w σ _ k fun v w1 g1 l1 r1 => by
  cases r1
  exact ⟨i, rfl, q w1 g1 l1⟩)
def wO (X : Cx) (e : Option Expr) : TO := fun σ H Q => ∀ (pins : List (Addr × Obj)) (s : Shared), Inv X pins σ H s → wpAny (model X.prog X.w) X.A (evalPart e X.env) (fun u s' => ∃ o H', Inv X pins σ H' s' ∧ IsPart u o ∧ Q o H') X.xe s
theorem po_w (e : Option Expr) : PO X e (wO X e) := ⟨fun pins s σ H Q I h => h pins s I⟩
theorem Reps.cut {K : PySem.W.Frag} {F : Hp} {vs : List V} (r : Reps K F vs ds) (lo hi : Option Int) : Reps K F (cutV vs lo hi) (Lw.cut ds lo hi) := by
  unfold cutV Lw.cut
  rw [r.length]
  exact (r.drop _).take _
theorem pd_slice {lo hi : Option Expr} {l h : Option Int} {p2 : Pos} (ha : PD TB X a env (.lst ds)) (hl : POd TB X lo env l) (hh : POd TB X hi env h) : PD TB X (.Subscript a (.Slice lo hi none p2) pos) env (.lst (cut ds l h)) := fun w0 w σ Q k q =>
  runE (pe_slice sl_list (pe_w a) (po_w lo) (po_w hi)) (ha w0 w σ _ k fun v w1 g1 l1 r1 => hl w0 w1 σ _ (k.mono g1 l1) fun w2 g2 l2 => hh w0 w2 σ _ ((k.mono g1 l1).mono g2 l2) fun w3 g3 l3 => by
    cases r1 with
    | lst h1 h2 => exact ⟨_, _, rfl, .inl (.inl (g3.sub _ _ (l3.f _ _ (l2.f _ _ h1)))), newL g3 ((h2.mono (l2.trans l3).f).cut l h) (qle ((l1.trans l2).trans l3) q)⟩)
theorem pd_rev {j : Nat} {p1 p2 p3 : Pos} (ha : PD TB X a env (.lst ds)) : PD TB X (.Subscript a (.Slice none none (some (.UnaryOp .USub (.Constant (.int 1) j p1) p2)) p3) pos) env (.lst ds.reverse) := fun w0 w σ Q k q =>
  runE (pe_revL (pe_w a)) (ha w0 w σ _ k fun v w1 g1 l1 r1 => by
    cases r1 with
    | lst h1 h2 => exact ⟨_, _, rfl, .inl (.inl (g1.sub _ _ h1)), newL g1 h2.reverse (qle l1 q)⟩)
theorem pd_cat (ha : PD TB X a env (.lst xs)) (hb : PD TB X b env (.lst ys)) (hl : xs.length + ys.length ≤ 100000) : PD TB X (.BinOp a .Add b pos) env (.lst (xs ++ ys)) := fun w0 w σ Q k q =>
  runE (pe_op op_cat (pe_w a) (pe_w b)) (ha w0 w σ _ k fun v w1 g1 l1 r1 => hb w0 w1 σ _ (k.mono g1 l1) fun u w2 g2 l2 r2 => by
    cases r1 with
    | lst h1 h2 =>
      cases r2 with
      | lst h3 h4 => exact ⟨_, _, _, _, rfl, rfl, g2.sub _ _ (l2.f _ _ h1), g2.sub _ _ h3, by rw [h2.length, h4.length]; exact size_small hl, newL g2 ((h2.mono l2.f).append h4) (qle (l1.trans l2) q)⟩)
theorem pd_rep {n : Nat} (ha : PD TB X a env (.lst xs)) (hb : PD TB X b env (.int n)) (hl : xs.length * n ≤ 100000) (hn : n ≤ 100000) : PD TB X (.BinOp a .Mult b pos) env (.lst (List.replicate n xs).flatten) := fun w0 w σ Q k q =>
  runE (pe_op op_rep (pe_w a) (pe_w b)) (ha w0 w σ _ k fun v w1 g1 l1 r1 => hb w0 w1 σ _ (k.mono g1 l1) fun u w2 g2 l2 r2 => by
    cases r2
    cases r1 with
    | lst h1 h2 => exact ⟨_, (n : Int), _, rfl, rfl, g2.sub _ _ (l2.f _ _ h1), by omega, by omega, by rw [h2.length, Int.toNat_natCast]; exact size_small hl, newL g2 ((h2.mono l2.f).rep n) (qle (l1.trans l2) q)⟩)

/-! ### built-ins -/
/-- a call of a built-in that keeps everything and gives a datum -/
theorem pd_callB {id : String} {n : Str} {r : List V → Hp → VK → Prop} {p : Pos} (hc : CallR X (.builtin id) r) (hm : X.mg n = none) (hv : bootBuiltins n = some (.builtin id)) (ha : PDs TB X (e :: es) env ds)
    (h : ∀ (vs : List V) (w : Wd) (Q : VK), Good TB w → Reps X.K w.F vs ds → (∀ v w', Good TB w' → Le w w' → Rep X.K w'.F v x → Q v w'.H) → r vs w.H Q)
    (hg : Gl X n := by rfl) (hn : n ≠ "__name__" := by decide) (hdb : (n == ("__debug__" : Str)) = false := by decide)
    (he : starEach (e :: es) X.env = (false, eval e X.env) :: starEach es X.env := by rfl) (hpl : (backTo pos (starEach es X.env)).any (·.1) = false := by rfl) : PD TB X (.Call (.Name n p) (e :: es) [] pos) env x := fun w0 w σ Q k q =>
  runE (pe_callB hc hg hm hv (pa_w _) hn hdb he hpl) (ha w0 w σ _ k fun vs w1 g1 l1 r1 => h vs w1 Q g1 r1 (qle l1 q))
theorem pd_callTy {T : String} {n : Str} {r : List V → Hp → VK → Prop} {p : Pos} (hc : CallR X (.type T) r) (hm : X.mg n = none) (hv : bootBuiltins n = some (.type T)) (ha : PDs TB X (e :: es) env ds)
    (h : ∀ (vs : List V) (w : Wd) (Q : VK), Good TB w → Reps X.K w.F vs ds → (∀ v w', Good TB w' → Le w w' → Rep X.K w'.F v x → Q v w'.H) → r vs w.H Q)
    (hg : Gl X n := by rfl) (hn : n ≠ "__name__" := by decide) (hdb : (n == ("__debug__" : Str)) = false := by decide)
    (he : starEach (e :: es) X.env = (false, eval e X.env) :: starEach es X.env := by rfl) (hpl : (backTo pos (starEach es X.env)).any (·.1) = false := by rfl) : PD TB X (.Call (.Name n p) (e :: es) [] pos) env x := fun w0 w σ Q k q =>
  runE (pe_callTy hc hg hm hv (pa_w _) hn hdb he hpl) (ha w0 w σ _ k fun vs w1 g1 l1 r1 => h vs w1 Q g1 r1 (qle l1 q))
variable {p : Pos}
theorem pd_len (hm : X.mg "len" = none) (ha : PD TB X a env x) (hx : x = .lst ds ∨ x = .tup ds) (hg : Gl X "len" := by rfl) (he : starEach [a] X.env = (false, eval a X.env) :: starEach [] X.env := by rfl) (hpl : (backTo pos (starEach [] X.env)).any (·.1) = false := by rfl) :
    PD TB X (.Call (.Name "len" p) [a] [] pos) env (.int ds.length) :=
  pd_callB call_len_seq hm PySem.boot_len (pds_cons ha pds_nil he) (fun vs w Q g r q => by
    cases r with
    | cons r1 r2 =>
      cases r2
      rcases hx with rfl | rfl
      · cases r1 with
        | lst h1 h2 =>
          have q' := q (.int ds.length) w g (Le.refl w) .int
          rw [← h2.length] at q'
          exact ⟨_, _, rfl, .inl (.inl (.inl (g.sub _ _ h1))), q'⟩
      · cases r1 with
        | tup h1 h2 =>
          have q' := q (.int ds.length) w g (Le.refl w) .int
          rw [← h2.length] at q'
          exact ⟨_, _, rfl, .inr (g.sub.sqt h1), q'⟩) hg (by decide) (by decide) he hpl
theorem pd_lenS {s : Str} (hm : X.mg "len" = none) (ha : PD TB X a env (.str s)) (hl : s.length ≤ 100000) (hg : Gl X "len" := by rfl) (he : starEach [a] X.env = (false, eval a X.env) :: starEach [] X.env := by rfl) (hpl : (backTo pos (starEach [] X.env)).any (·.1) = false := by rfl) :
    PD TB X (.Call (.Name "len" p) [a] [] pos) env (.int s.length) :=
  pd_callB call_len_str hm PySem.boot_len (pds_cons ha pds_nil he) (fun vs w Q g r q => by
    cases r with
    | cons r1 r2 =>
      cases r2
      cases r1
      exact ⟨s, rfl, size_small hl, q _ w g (Le.refl w) .int⟩) hg (by decide) (by decide) he hpl
theorem pd_list (hm : X.mg "list" = none) (ha : PD TB X a env x) (hx : x = .lst ds ∨ x = .tup ds) (hg : Gl X "list" := by rfl) (he : starEach [a] X.env = (false, eval a X.env) :: starEach [] X.env := by rfl) (hpl : (backTo pos (starEach [] X.env)).any (·.1) = false := by rfl) :
    PD TB X (.Call (.Name "list" p) [a] [] pos) env (.lst ds) :=
  pd_callTy call_list_of hm (by decide +kernel) (pds_cons ha pds_nil he) (fun vs w Q g r q => by
    cases r with
    | cons r1 r2 =>
      cases r2
      rcases hx with rfl | rfl
      · cases r1 with
        | lst h1 h2 => exact ⟨_, _, rfl, .inl (.inl (.inl (g.sub _ _ h1))), newL g h2 q⟩
      · cases r1 with
        | tup h1 h2 => exact ⟨_, _, rfl, .inr (g.sub.sqt h1), newL g h2 q⟩) hg (by decide) (by decide) he hpl
theorem pd_tuple (hm : X.mg "tuple" = none) (ha : PD TB X a env (.lst ds)) (hg : Gl X "tuple" := by rfl) (he : starEach [a] X.env = (false, eval a X.env) :: starEach [] X.env := by rfl) (hpl : (backTo pos (starEach [] X.env)).any (·.1) = false := by rfl) :
    PD TB X (.Call (.Name "tuple" p) [a] [] pos) env (.tup ds) :=
  pd_callTy call_tuple_of hm (by decide +kernel) (pds_cons ha pds_nil he) (fun vs w Q g r q => by
    cases r with
    | cons r1 r2 =>
      cases r2
      cases r1 with
      | lst h1 h2 => exact ⟨_, _, rfl, .inl ⟨.inl (.inl (g.sub _ _ h1)), newT g h2 q⟩⟩) hg (by decide) (by decide) he hpl
theorem reps_bls {K : PySem.W.Frag} {F : Hp} : ∀ {bs : List Bool} {vs : List V}, Reps K F vs (bs.map D.bl) → vs = bs.map V.bl
  | [], _, r => by cases r; rfl
  | b :: bs, _, r => by
    cases r with
    | cons r1 r2 =>
      cases r1
      rw [reps_bls r2]
      rfl
theorem reps_ints {K : PySem.W.Frag} {F : Hp} : ∀ {bs : List Int} {vs : List V}, Reps K F vs (bs.map D.int) → vs = bs.map V.int
  | [], _, r => by cases r; rfl
  | b :: bs, _, r => by
    cases r with
    | cons r1 r2 =>
      cases r1
      rw [reps_ints r2]
      rfl
theorem ints_reps {K : PySem.W.Frag} {F : Hp} : ∀ bs : List Int, Reps K F (bs.map V.int) (bs.map D.int)
  | [] => .nil
  | _ :: bs => .cons .int (ints_reps bs)
theorem reps_strs {K : PySem.W.Frag} {F : Hp} : ∀ {bs : List Str} {vs : List V}, Reps K F vs (bs.map D.str) → vs = bs.map V.str
  | [], _, r => by cases r; rfl
  | b :: bs, _, r => by
    cases r with
    | cons r1 r2 =>
      cases r1
      rw [reps_strs r2]
      rfl
theorem pd_all {bs : List Bool} (hm : X.mg "all" = none) (ha : PD TB X a env (.lst (bs.map D.bl))) (hc : X.calm = true := by rfl) (hg : Gl X "all" := by rfl) (he : starEach [a] X.env = (false, eval a X.env) :: starEach [] X.env := by rfl) (hpl : (backTo pos (starEach [] X.env)).any (·.1) = false := by rfl) :
    PD TB X (.Call (.Name "all" p) [a] [] pos) env (.bl (bs.all id)) :=
  pd_callB (cr_all hc) hm (by decide +kernel) (pds_cons ha pds_nil he) (fun vs w Q g r q => by
    cases r with
    | cons r1 r2 =>
      cases r2
      cases r1 with
      | lst h1 h2 =>
        rw [reps_bls h2] at h1
        exact ⟨_, bs, rfl, .inl (.inl (g.sub _ _ h1)), q _ w g (Le.refl w) .bl⟩) hg (by decide) (by decide) he hpl
theorem pd_any {bs : List Bool} (hm : X.mg "any" = none) (ha : PD TB X a env (.lst (bs.map D.bl))) (hc : X.calm = true := by rfl) (hg : Gl X "any" := by rfl) (he : starEach [a] X.env = (false, eval a X.env) :: starEach [] X.env := by rfl) (hpl : (backTo pos (starEach [] X.env)).any (·.1) = false := by rfl) :
    PD TB X (.Call (.Name "any" p) [a] [] pos) env (.bl (bs.any id)) :=
  pd_callB (cr_any hc) hm (by decide +kernel) (pds_cons ha pds_nil he) (fun vs w Q g r q => by
    cases r with
    | cons r1 r2 =>
      cases r2
      cases r1 with
      | lst h1 h2 =>
        rw [reps_bls h2] at h1
        exact ⟨_, bs, rfl, .inl (.inl (g.sub _ _ h1)), q _ w g (Le.refl w) .bl⟩) hg (by decide) (by decide) he hpl
theorem pd_sum {ns : List Int} (hm : X.mg "sum" = none) (ha : PD TB X a env (.lst (ns.map D.int))) (hc : X.calm = true := by rfl) (hg : Gl X "sum" := by rfl) (he : starEach [a] X.env = (false, eval a X.env) :: starEach [] X.env := by rfl) (hpl : (backTo pos (starEach [] X.env)).any (·.1) = false := by rfl) :
    PD TB X (.Call (.Name "sum" p) [a] [] pos) env (.int ns.sum) :=
  pd_callB (cr_sum hc) hm (by decide +kernel) (pds_cons ha pds_nil he) (fun vs w Q g r q => by
    cases r with
    | cons r1 r2 =>
      cases r2
      cases r1 with
      | lst h1 h2 =>
        rw [reps_ints h2] at h1
        exact ⟨_, ns, rfl, .inl (.inl (g.sub _ _ h1)), q _ w g (Le.refl w) .int⟩) hg (by decide) (by decide) he hpl
theorem pd_minI {ns : List Int} {m : Int} (hm : X.mg "min" = none) (ha : PD TB X a env (.lst (ns.map D.int))) (h1 : m ∈ ns) (h2 : ∀ y ∈ ns, m ≤ y) (hc : X.calm = true := by rfl) (hg : Gl X "min" := by rfl) (he : starEach [a] X.env = (false, eval a X.env) :: starEach [] X.env := by rfl) (hpl : (backTo pos (starEach [] X.env)).any (·.1) = false := by rfl) :
    PD TB X (.Call (.Name "min" p) [a] [] pos) env (.int m) :=
  pd_callB (cr_min hc) hm (by decide +kernel) (pds_cons ha pds_nil he) (fun vs w Q g r q => by
    cases r with
    | cons r1 r2 =>
      cases r2
      cases r1 with
      | lst k1 k2 =>
        rw [reps_ints k2] at k1
        refine ⟨_, ns, rfl, .inl (.inl (g.sub _ _ k1)), List.length_pos_of_mem h1, fun n hn hl => ?_⟩
        have e : n = m := Int.le_antisymm (hl m h1) (h2 n hn)
        rw [e]
        exact q _ w g (Le.refl w) .int) hg (by decide) (by decide) he hpl
theorem pd_min2 {i j : Int} (hm : X.mg "min" = none) (ha : PD TB X a env (.int i)) (hb : PD TB X b env (.int j)) (hc : X.calm = true := by rfl) (hg : Gl X "min" := by rfl) (he : starEach [a, b] X.env = (false, eval a X.env) :: starEach [b] X.env := by rfl) (he2 : starEach [b] X.env = (false, eval b X.env) :: starEach [] X.env := by rfl) (hpl : (backTo pos (starEach [b] X.env)).any (·.1) = false := by rfl) :
    PD TB X (.Call (.Name "min" p) [a, b] [] pos) env (.int (if j < i then j else i)) :=
  pd_callB (call_min2 hc) hm (by decide +kernel) (pds_cons ha (pds_cons hb pds_nil he2) he) (fun vs w Q g r q => by
    cases r with
    | cons r1 r2 =>
      cases r2 with
      | cons r2 r3 =>
        cases r3; cases r1; cases r2
        exact ⟨i, j, rfl, q _ w g (Le.refl w) .int⟩) hg (by decide) (by decide) he hpl
theorem pd_max2 {i j : Int} (hm : X.mg "max" = none) (ha : PD TB X a env (.int i)) (hb : PD TB X b env (.int j)) (hc : X.calm = true := by rfl) (hg : Gl X "max" := by rfl) (he : starEach [a, b] X.env = (false, eval a X.env) :: starEach [b] X.env := by rfl) (he2 : starEach [b] X.env = (false, eval b X.env) :: starEach [] X.env := by rfl) (hpl : (backTo pos (starEach [b] X.env)).any (·.1) = false := by rfl) :
    PD TB X (.Call (.Name "max" p) [a, b] [] pos) env (.int (if j > i then j else i)) :=
  pd_callB (call_max2 hc) hm (by decide +kernel) (pds_cons ha (pds_cons hb pds_nil he2) he) (fun vs w Q g r q => by
    cases r with
    | cons r1 r2 =>
      cases r2 with
      | cons r2 r3 =>
        cases r3; cases r1; cases r2
        exact ⟨i, j, rfl, q _ w g (Le.refl w) .int⟩) hg (by decide) (by decide) he hpl
theorem rgV_nat (n : Nat) : rgV 0 (n : Int) = (List.range n).map fun i => V.int ((i : Nat) : Int) := by
  unfold rgV
  rw [show ((n : Int) - 0).toNat = n by omega]
  exact List.map_congr_left fun i _ => by rw [Int.zero_add]
def rgD (n : Nat) : List D := (List.range n).map fun i => D.int ((i : Nat) : Int)
theorem rgD_length (n : Nat) : (rgD n).length = n := by
  unfold rgD
  rw [List.length_map, List.length_range]
theorem reps_rg {K : PySem.W.Frag} {F : Hp} (n : Nat) : Reps K F (rgV 0 (n : Int)) (rgD n) := by
  rw [rgV_nat]
  unfold rgD
  have : ∀ l : List Nat, Reps K F (l.map fun i => V.int ((i : Nat) : Int)) (l.map fun i => D.int ((i : Nat) : Int)) := by
    intro l
    induction l with
    | nil => exact .nil
    | cons a l ih => exact .cons .int ih
  exact this _
/-- list(range(n)) -/
theorem pd_listRg {n : Nat} {p2 p3 : Pos} (hm : X.mg "list" = none) (hm2 : X.mg "range" = none) (ha : PD TB X a env (.int n)) (hn : n ≤ 100000) (hc : X.calm = true := by rfl) (hg : Gl X "list" := by rfl) (hg2 : Gl X "range" := by rfl)
    (he : starEach [a] X.env = (false, eval a X.env) :: starEach [] X.env := by rfl)
    (he2 : starEach [Expr.Call (.Name "range" p2) [a] [] p3] X.env = (false, eval (.Call (.Name "range" p2) [a] [] p3) X.env) :: starEach [] X.env := by rfl) : PD TB X (.Call (.Name "list" p) [.Call (.Name "range" p2) [a] [] p3] [] pos) env (.lst (rgD n)) := fun w0 w σ Q k q =>
  runE (pe_listRg hc hg hm (prg_1 hg2 hm2 (pe_w a) he) he2) (ha w0 w σ _ k fun v w1 g1 l1 r1 => by
    cases r1
    exact ⟨(n : Int), rfl, ⟨by omega, by omega, by omega, by omega, by omega⟩, newL g1 (reps_rg n) (qle l1 q)⟩)
/-- len(set(xs)), no int twice -/
theorem pd_lenSet {ns : List Int} {p2 p3 : Pos} (hm : X.mg "len" = none) (hm2 : X.mg "set" = none) (ha : PD TB X a env (.lst (ns.map D.int))) (hn : ns.Nodup) (hl : ns.length ≤ 4000) (hg : Gl X "len" := by rfl) (hg2 : Gl X "set" := by rfl) (hc : X.calm = true := by rfl)
    (na : starEach [a] X.env = (false, eval a X.env) :: starEach [] X.env := by rfl) : PD TB X (.Call (.Name "len" p) [.Call (.Name "set" p2) [a] [] p3] [] pos) env (.int ns.length) := fun w0 w σ Q k q =>
  runE (RZ.pe_lenSetI hg hm hg2 hm2 (pe_w a) hc na) (ha w0 w σ _ k fun v w1 g1 l1 r1 => by
    cases r1 with
    | lst h1 h2 =>
      rw [reps_ints h2] at h1
      exact ⟨_, ns, rfl, .inl (.inl (g1.sub _ _ h1)), hn, hl, q _ w1 g1 l1 .int⟩)
end

/-! ### defs: what they promise over data -/
def spR (TB : Tbs) (K : PySem.W.Frag) (φ : List D → D → Prop) : Sp := fun vs H Q _ =>
  ∃ (F : Hp) (ds : List D) (r : D), Good TB ⟨F, H⟩ ∧ Reps K F vs ds ∧ φ ds r ∧ ∀ v w', Good TB w' → Le ⟨F, H⟩ w' → Rep K w'.F v r → Q v w'.H
/-- the def at the module's name n keeps φ, by at most level k -/
structure FnR (TB : Tbs) (P : Program) (w : World) (K : PySem.W.Frag) (mg : Str → Option Value) (base : Heap) (n : Str) (ps : List Str) (k : Nat) (φ : List D → D → Prop) : Prop where
  ex : ∃ (f : Addr) (fd : FuncData), mg n = some (.ref f) ∧ PySem.W.keepIn K (.ref f) = true ∧ Binds K fd ps [] ∧ FnOk P w K mg base CX0 k f fd ps (spR TB K φ)
/-- the method m of the class at C keeps φ -/
structure MeR (TB : Tbs) (P : Program) (w : World) (K : PySem.W.Frag) (mg : Str → Option Value) (base : Heap) (C : Addr) (m : Str) (ps : List Str) (k : Nat) (φ : List D → D → Prop) : Prop where
  ex : ∃ (f : Addr) (fd : FuncData), Cls K C ∧ Meth K C m f ∧ Binds K fd ps [] ∧ FnOk P w K mg base CX0 k f fd ps (spR TB K φ)
structure PrR (TB : Tbs) (P : Program) (w : World) (K : PySem.W.Frag) (mg : Str → Option Value) (base : Heap) (C : Addr) (m : Str) (k : Nat) (φ : List D → D → Prop) : Prop where
  ex : ∃ (p f : Addr) (fd : FuncData), Cls K C ∧ PropOf K C m p f ∧ Binds K fd ["self"] [] ∧ FnOk P w K mg base CX0 k f fd ["self"] (spR TB K φ)
section
variable {TB : Tbs} {X : Cx} {env : List Sl} {a b c e o : Expr} {es : List Expr} {d d1 d2 x y z : D} {ds xs ys : List D} {pos p : Pos} {t : Bool} {k : Nat} {ps : List Str} {φ : List D → D → Prop} {C : Addr}
theorem spR_of {w : Wd} {vs : List V} {Q : VK} (g : Good TB w) (r : Reps X.K w.F vs ds) (h : φ ds x) (q : ∀ v w', Good TB w' → Le w w' → Rep X.K w'.F v x → Q v w'.H) : spR TB X.K φ vs w.H Q E0 := ⟨w.F, ds, x, g, r, h, q⟩
theorem pd_call {n : Str} (G : FnR TB X.prog X.w X.K X.mg X.base n ps k φ) (hr : Room k X.A) (ha : PDs TB X (e :: es) env ds) (h : φ ds x) (hg : Gl X n := by rfl)
    (hdb : (n == ("__debug__" : Str)) = false := by decide) (he : starEach (e :: es) X.env = (false, eval e X.env) :: starEach es X.env := by rfl) (hpl : (backTo pos (starEach es X.env)).any (·.1) = false := by rfl) :
    PD TB X (.Call (.Name n p) (e :: es) [] pos) env x := fun w0 w σ Q kk q => by
  obtain ⟨f, fd, hm, kp, hb, F⟩ := G.ex
  refine runE (pe_call F hr hg hm kp hb .nil pass0 (pa_w _) hdb he hpl) (ha w0 w σ _ kk fun vs w1 g1 l1 r1 => ?_)
  show spR TB X.K φ (vs ++ []) w1.H Q E0
  rw [List.append_nil]
  exact spR_of g1 r1 h (qle l1 q)
theorem rep_ins {K : PySem.W.Frag} {F : Hp} {v : V} {ns : List Str} (r : Rep K F v (.ins C ns xs)) : ∃ p dx fs, v = .ref p ∧ F p = some (.ins C dx fs) ∧ fs.map (·.1) = ns ∧ Reps K F (fs.map (·.2)) xs := by
  cases r with
  | ins h1 h2 h3 => exact ⟨_, _, _, rfl, h1, h2, h3⟩
theorem lookup_none : ∀ {fs : List (Str × V)} {n : Str}, n ∉ fs.map (·.1) → fs.lookup n = none
  | [], _, _ => rfl
  | (m, v) :: fs, n, h => by
    rw [List.map_cons, List.mem_cons, not_or] at h
    have e : (n == m) = false := by simpa using h.1
    rw [List.lookup_cons, e]
    exact lookup_none h.2
theorem lookup_some : ∀ {fs : List (Str × V)} {i : Nat} {n : Str} {v : V}, (fs.map (·.1)).Nodup → (fs.map (·.1))[i]? = some n → (fs.map (·.2))[i]? = some v → fs.lookup n = some v
  | [], _, _, _, _, h, _ => by simp at h
  | (m, u) :: fs, 0, n, v, _, h1, h2 => by
    have e1 : m = n := Option.some.inj h1
    have e2 : u = v := Option.some.inj h2
    subst e1 e2
    simp [List.lookup]
  | (m, u) :: fs, i + 1, n, v, hn, h1, h2 => by
    rw [List.map_cons, List.nodup_cons] at hn
    have h1' : (fs.map (·.1))[i]? = some n := h1
    have e : (n == m) = false := by
      have : n ≠ m := fun z => hn.1 (z ▸ List.mem_of_getElem? h1')
      simpa using this
    rw [List.lookup_cons, e]
    exact lookup_some hn.2 h1' h2
end
end Lw
set_option Elab.async false
set_option linter.all false
set_option maxRecDepth 100000
set_option maxHeartbeats 4000000
/-! # Methods, fields, instances; statements -/
namespace Lw
open PySem PySem.Spec PyProof.Rows L2
section
variable {TB : Tbs} {X : Cx} {env : List Sl} {a b c e o : Expr} {es : List Expr} {d d1 d2 x y z : D} {ds xs ys : List D} {pos p apos cpos : Pos} {t : Bool} {k : Nat} {ps : List Str} {φ : List D → D → Prop} {C : Addr} {ns : List Str} {m : Str}
theorem ins_back {w w' : Wd} {a C dx : Addr} {fs : List (Str × V)} (g : Good TB w') (l : FLe w.F w'.F) (h : w.F a = some (.ins C dx fs)) : w'.H a = some (.ins C dx fs) := g.sub _ _ (l _ _ h)
theorem pd_meth {pl : Sem Bool} (G : MeR TB X.prog X.w X.K X.mg X.base C m ps k φ) (hr : Room k X.A) (ho : PD TB X o env (.ins C ns xs)) (ha : PDs TB X (e :: es) env ds) (h : φ (.ins C ns xs :: ds) x) (hm : m ∉ ns)
    (hst : starEach (e :: es) X.env = (false, eval e X.env) :: starEach es X.env := by rfl) (hpl : (backTo pos (starEach es X.env)).any (·.1) = false := by rfl)
    (ht : eval (.Call (.Attribute o m apos) (e :: es) [] pos) X.env = (do
      let ov ← eval o X.env
      standAt apos.atName
      let (f, first) ← holding [ov] (getMethod ov m pl)
      callWith pos f first (backTo pos (starEach (e :: es) X.env)) (backToKw pos (keywordEach [] X.env))) := by rfl) : PD TB X (.Call (.Attribute o m apos) (e :: es) [] pos) env x := fun w0 w σ Q kk q => by
  obtain ⟨f, fd, hc, hM, hb, F⟩ := G.ex
  refine runE (pe_meth (pe_w o) hc hM F hr hb .nil pass0 (pa_w _) hst hpl ht) (ho w0 w σ _ kk fun v w1 g1 l1 r1 => ?_)
  obtain ⟨p, dx, fs, rfl, hp, hn, hx⟩ := rep_ins r1
  refine ⟨p, dx, fs, rfl, g1.sub _ _ hp, lookup_none (by rw [hn]; exact hm), ha w0 w1 σ _ (kk.mono g1 l1) fun vs w2 g2 l2 r2 => ?_⟩
  rw [List.append_nil]
  exact spR_of g2 (.cons (r1.mono l2.f) r2) h (qle (l1.trans l2) q)
theorem pd_meth0 {pl : Sem Bool} (G : MeR TB X.prog X.w X.K X.mg X.base C m ps k φ) (hr : Room k X.A) (ho : PD TB X o env (.ins C ns xs)) (h : φ [.ins C ns xs] x) (hm : m ∉ ns)
    (ht : eval (.Call (.Attribute o m apos) [] [] pos) X.env = (do
      let ov ← eval o X.env
      standAt apos.atName
      let (f, first) ← holding [ov] (getMethod ov m pl)
      callWith pos f first (backTo pos (starEach [] X.env)) (backToKw pos (keywordEach [] X.env))) := by rfl) : PD TB X (.Call (.Attribute o m apos) [] [] pos) env x := fun w0 w σ Q kk q => by
  obtain ⟨f, fd, hc, hM, hb, F⟩ := G.ex
  refine runE (pe_meth0 (pe_w o) hc hM F hr hb .nil pass0 ht) (ho w0 w σ _ kk fun v w1 g1 l1 r1 => ?_)
  obtain ⟨p, dx, fs, rfl, hp, hn, hx⟩ := rep_ins r1
  exact ⟨p, dx, fs, rfl, g1.sub _ _ hp, lookup_none (by rw [hn]; exact hm), spR_of g1 (.cons r1 .nil) h (qle l1 q)⟩
/-- o.f, an attribute: the i-th -/
theorem pd_fld (i : Nat) (hc : Cls X.K C) (hna : NoAttr X.K C m) (ho : PD TB X o env (.ins C ns xs)) (hn : ns.Nodup) (h1 : ns[i]? = some m) (h2 : xs[i]? = some x) (hb : attributeBase o m X.env (eval o X.env) = eval o X.env := by rfl) : PD TB X (.Attribute o m pos) env x := fun w0 w σ Q kk q =>
  runE (pe_fld (pe_w o) hb) (ho w0 w σ _ kk fun v w1 g1 l1 r1 => by
    obtain ⟨p, dx, fs, rfl, hp, hk, hx⟩ := rep_ins r1
    obtain ⟨v, e, r⟩ := hx.get h2
    exact ⟨p, C, dx, fs, v, rfl, g1.sub _ _ hp, hc, hna, lookup_some (by rw [hk]; exact hn) (by rw [hk]; exact h1) e, q v w1 g1 l1 r⟩)
/-- o.f, a property -/
theorem pd_prop (G : PrR TB X.prog X.w X.K X.mg X.base C m k φ) (hr : Room (k + 1) X.A) (ho : PD TB X o env (.ins C ns xs)) (h : φ [.ins C ns xs] x) (hb : attributeBase o m X.env (eval o X.env) = eval o X.env := by rfl) : PD TB X (.Attribute o m pos) env x := fun w0 w σ Q kk q => by
  obtain ⟨p, f, fd, hc, hp, hbn, F⟩ := G.ex
  refine runE (pe_prop (E := E0) (pe_w o) hc hp F hr hbn .nil (fun _ _ _ _ _ _ _ h => h.elim) hb) (ho w0 w σ _ kk fun v w1 g1 l1 r1 => ?_)
  obtain ⟨p, dx, fs, rfl, hp, hn, hx⟩ := rep_ins r1
  exact ⟨p, dx, fs, rfl, g1.sub _ _ hp, spR_of g1 (.cons r1 .nil) h (qle l1 q)⟩
/-- len(o), o[i] of an own class -/
structure SpecR (TB : Tbs) (P : Program) (w : World) (K : PySem.W.Frag) (mg : Str → Option Value) (base : Heap) (C : Addr) (m : Str) (ps : List Str) (k : Nat) (φ : List D → D → Prop) : Prop where
  ex : ∃ (f : Addr) (fd : FuncData), PySem.W.findIn K (.ref C) m = some (some (.ref f)) ∧ PySem.W.isFn K (.ref f) = true ∧ PySem.W.fnIn K f = true ∧ Binds K fd ps [] ∧ FnOk P w K mg base CX0 k f fd ps (spR TB K φ)
theorem run_in1 {f : Addr} {fd : FuncData} {sp : Sp} {pins : List (Addr × Obj)} {σ : L2.St} {H : Hp} {s : Shared} {Q : VK} {us : List Value} {vs : List V} (F : FnOk X.prog X.w X.K X.mg X.base CX0 k f fd ps sp) (hr : Room (k + 1) X.A) (hb : Binds X.K fd ps [])
    (I : Inv X pins σ H s) (r : Vals vs us) (h : sp vs H Q E0) {E : Value → Shared → Prop} : wpAny (model X.prog X.w) X.A.in1 (call (.ref f) us) (EP X pins σ Q) E s := by
  have hl : (us ++ []).length = ps.length := by
    rw [List.append_nil, ← r.length]
    exact F.len _ _ _ _ h
  have hbb := hb s us I.kIn hl
  rw [List.append_nil] at hbb
  refine wpAny_call (codeAny_mono (F.run X.A.in1 X.stack s H ⟨us, []⟩ us vs Q E0 hr.in1 I.env0.in1 hbb r h) fun r s' hq => ?_)
  cases r with
  | error er => exact hq.elim
  | ok fl =>
    cases fl with
    | ret u => exact I.after hq
    | next => exact False.elim hq
    | brk => exact False.elim hq
    | cont => exact False.elim hq
theorem pd_lenO {n : Nat} (G : SpecR TB X.prog X.w X.K X.mg X.base C "__len__" ["self"] k φ) (hr : Room (k + 1) X.A) (hm : X.mg "len" = none) (ho : PD TB X o env (.ins C ns xs)) (h : φ [.ins C ns xs] (.int n)) (hn : n ≤ 100000) (hg : Gl X "len" := by rfl)
    (he : starEach [o] X.env = (false, eval o X.env) :: starEach [] X.env := by rfl) (hpl : (backTo pos (starEach [] X.env)).any (·.1) = false := by rfl) : PD TB X (.Call (.Name "len" p) [o] [] pos) env (.int n) := by
  obtain ⟨f, fd, hs, hf, _, hb, F⟩ := G.ex
  refine pd_callB (r := fun vs H Q => ∃ a dx fs, vs = [.ref a] ∧ H a = some (.ins C dx fs) ∧ spR TB X.K φ [.ref a] H (fun v H' => ∃ j : Nat, v = .int j ∧ j ≤ 100000 ∧ Q v H') E0) ?_ hm PySem.boot_len (pds_cons ho pds_nil he) (fun vs w Q g r q => ?_) hg (by decide) (by decide) he hpl
  · intro pins s σ H vs us Q I rv hq
    obtain ⟨a, dx, fs, rfl, ea, hsp⟩ := hq
    obtain rfl := Vals.ref1 rv
    obtain ⟨mA, O, _, _, _, _⟩ := ins_get I.hok ea
    obtain ⟨od, J, _⟩ := O.look
    obtain ⟨mm, fr⟩ := I.fr
    refine PySem.W.len_K fr I.ok.mod.kin J hs hf (wpAny_mono (run_in1 F hr hb I rv hsp) (fun u s' hq => ?_) fun _ _ z => z)
    obtain ⟨v, H', I', r', j, rfl, hj, qq⟩ := hq
    obtain ⟨tk, rfl⟩ := r'
    exact ⟨⟨by omega, by omega⟩, ⟨.int j, H', I'.tok _, ⟨_, rfl⟩, qq⟩⟩
  · cases r with
    | cons r1 r2 =>
      cases r2
      obtain ⟨p, dx, fs, rfl, hp, _, _⟩ := rep_ins r1
      refine ⟨p, dx, fs, rfl, g.sub _ _ hp, spR_of g (.cons r1 .nil) h fun v w' g' l' r' => ?_⟩
      cases r'
      exact ⟨n, rfl, hn, q _ w' g' l' .int⟩
theorem pd_getO {i : Expr} (G : SpecR TB X.prog X.w X.K X.mg X.base C "__getitem__" ps k φ) (hr : Room (k + 1) X.A) (ho : PD TB X o env (.ins C ns xs)) (hi : PD TB X i env y) (h : φ [.ins C ns xs, y] x)
    (hsl : ∀ (q : Addr) (j : Value), subscripted i true (.ref q) j = runValue (.builtin "lifetime.subscript" ⟨[.ref q, j], []⟩) := by intro _ _; with_unfolding_all rfl) : PD TB X (.Subscript o i pos) env x := fun w0 w σ Q kk q pins s I => by
  obtain ⟨f, fd, hs, hf, hfi, hb, F⟩ := G.ex
  refine Subscript_ (binT (pe_w o) (pe_w i) I (R := fun v u H2 => ∃ a dx fs, v = .ref a ∧ H2 a = some (.ins C dx fs) ∧ spR TB X.K φ [.ref a, u] H2 Q E0)
    (ho w0 w σ _ kk fun v w1 g1 l1 r1 => hi w0 w1 σ _ (kk.mono g1 l1) fun u w2 g2 l2 r2 => ?_) fun v u s2 xv yv H2 I2 rx ry qq => ?_)
  · obtain ⟨p, dx, fs, rfl, hp, _, _⟩ := rep_ins (r1.mono l2.f)
    exact ⟨p, dx, fs, rfl, g2.sub _ _ hp, spR_of g2 (.cons (r1.mono l2.f) (.cons r2 .nil)) h (qle (l1.trans l2) q)⟩
  · obtain ⟨a, dx, fs, rfl, ea, hsp⟩ := qq
    obtain rfl : v = Value.ref a := rx
    obtain ⟨mA, O, _, _, _, _⟩ := ins_get I2.hok ea
    obtain ⟨od, J, _⟩ := O.look
    obtain ⟨mm, fr⟩ := I2.fr
    exact PySem.W.sub_K fr I2.ok.mod.kin J hs hfi hf (run_in1 F hr hb I2 (.cons (show RelV (.ref a) (.ref a) from rfl) (.cons ry .nil)) hsp) (hsl _ _)
/-- C(..) -/
def spI (TB : Tbs) (K : PySem.W.Frag) (C : Addr) (φ : List D → List Str → List D → Prop) : Sp := fun vs H Q _ =>
  ∃ (F H1 : Hp) (x dx : Addr) (us : List V) (ds : List D) (ns : List Str) (rs : List D), vs = .ref x :: us ∧ H1 x = none ∧ H1 dx = none ∧ dx ≠ x ∧ H = upd (upd H1 dx (.own x)) x (.ins C dx []) ∧ Good TB ⟨F, H1⟩ ∧ Reps K F us ds ∧ φ ds ns rs ∧
    ∀ w', Good TB w' → Le ⟨F, H1⟩ w' → Rep K w'.F (.ref x) (.ins C ns rs) → Q .non w'.H
structure MkR (TB : Tbs) (P : Program) (w : World) (K : PySem.W.Frag) (mg : Str → Option Value) (base : Heap) (C : Addr) (n : Str) (ps : List Str) (k : Nat) (φ : List D → List Str → List D → Prop) : Prop where
  ex : ∃ (f : Addr) (fd : FuncData), mg n = some (.ref C) ∧ Mk K C f ∧ Binds K fd ps [] ∧ FnOk P w K mg base CX0 k f fd ps (spI TB K C φ)
theorem pd_make {φ : List D → List Str → List D → Prop} {n : Str} {rs : List D} (G : MkR TB X.prog X.w X.K X.mg X.base C n ps k φ) (hr : Room (k + 1) X.A) (ha : PDs TB X (e :: es) env ds) (h : φ ds ns rs) (hg : Gl X n := by rfl)
    (hdb : (n == ("__debug__" : Str)) = false := by decide) (he : starEach (e :: es) X.env = (false, eval e X.env) :: starEach es X.env := by rfl) (hpl : (backTo pos (starEach es X.env)).any (·.1) = false := by rfl) :
    PD TB X (.Call (.Name n p) (e :: es) [] pos) env (.ins C ns rs) := fun w0 w σ Q kk q => by
  obtain ⟨f, fd, hm, M, hb, F⟩ := G.ex
  refine runE (pe_make M F hr hg hm hb .nil pass0 (pa_w _) hdb he hpl) (ha w0 w σ _ kk fun vs w1 g1 l1 r1 x dx hx hdx hne => ?_)
  rw [List.append_nil]
  exact ⟨w1.F, w1.H, x, dx, vs, ds, ns, rs, rfl, hx, hdx, hne, rfl, g1, r1, h, fun w' g' l' r' => ⟨rfl, q _ w' g' (l1.trans l') r'⟩⟩
end

/-! ### things of one's own, read -/
section
variable {TB : Tbs} {X : Cx} {env : List Sl} {a b c e o : Expr} {es : List Expr} {d d1 d2 x y z : D} {ds xs ys : List D} {pos p apos cpos : Pos} {t : Bool}
/-- the thing is read by something that gives a plain value: it may be looked at as if it stood for ever -/
theorem pd_peek (i : Nat) {u : OO} (hi : env[i]? = some (Sl.o u)) (h : PD TB X e (env.set i (Sl.d u.fz)) x) (hx : flat x = true) : PD TB X e env x := fun w0 w σ Q k q => by
  obtain ⟨p, s⟩ := k.ownAt hi
  obtain ⟨ho, hp, hf, nt, k1⟩ := k.fz hi s
  refine h w0 ⟨upd w.F p ho, w.H⟩ σ Q k1 fun v w' g' l' r' => ?_
  have hp' : w'.H p = some ho := l'.h p ho hp nt
  refine q v ⟨fun a => if a = p then none else w'.F a, w'.H⟩ ⟨fun a o e => ?_, fun a ps e => ?_, g'.tb⟩ ⟨fun a o e => ?_, fun a o e n => l'.h a o e n, fun a o e n => ?_⟩ (r'.flatMono hx)
  · have e' : (if a = p then none else w'.F a) = some o := e
    split at e'
    · cases e'
    · exact g'.sub a o e'
  · have e' : (if a = p then none else w'.F a) = some (.tbl ps) := e
    split at e'
    · cases e'
    · exact g'.nt a ps e'
  · show (if a = p then none else w'.F a) = some o
    have ne : a ≠ p := fun z => by
      subst z
      rw [hf] at e
      cases e
    rw [if_neg ne]
    refine l'.f a o ?_
    show upd w.F p ho a = some o
    rw [upd_ne ne]
    exact e
  · show (if a = p then none else w'.F a) = w.F a
    by_cases z : a = p
    · subst z
      rw [if_pos rfl, hf]
    · rw [if_neg z, l'.n a o e n]
      show upd w.F p ho a = w.F a
      rw [upd_ne z]
theorem pt_peek (i : Nat) {u : OO} (hi : env[i]? = some (Sl.o u)) (h : PTd TB X e (env.set i (Sl.d u.fz)) t) : PTd TB X e env t := fun w0 w σ Q k q => by
  obtain ⟨p, s⟩ := k.ownAt hi
  obtain ⟨ho, hp, hf, nt, k1⟩ := k.fz hi s
  refine h w0 ⟨upd w.F p ho, w.H⟩ σ Q k1 fun w' g' l' => ?_
  have hp' : w'.H p = some ho := l'.h p ho hp nt
  refine q ⟨fun a => if a = p then none else w'.F a, w'.H⟩ ⟨fun a o e => ?_, fun a ps e => ?_, g'.tb⟩ ⟨fun a o e => ?_, fun a o e n => l'.h a o e n, fun a o e n => ?_⟩
  · have e' : (if a = p then none else w'.F a) = some o := e
    split at e'
    · cases e'
    · exact g'.sub a o e'
  · have e' : (if a = p then none else w'.F a) = some (.tbl ps) := e
    split at e'
    · cases e'
    · exact g'.nt a ps e'
  · show (if a = p then none else w'.F a) = some o
    have ne : a ≠ p := fun z => by
      subst z
      rw [hf] at e
      cases e
    rw [if_neg ne]
    refine l'.f a o ?_
    show upd w.F p ho a = some o
    rw [upd_ne ne]
    exact e
  · show (if a = p then none else w'.F a) = w.F a
    by_cases z : a = p
    · subst z
      rw [if_pos rfl, hf]
    · rw [if_neg z, l'.n a o e n]
      show upd w.F p ho a = w.F a
      rw [upd_ne z]
/-- an item of a list of one's own -/
theorem pd_ixo (i : Nat) {j : Int} {n : Str} {pn : Pos} (hi : env[i]? = some (Sl.o (.l xs))) (hb : PD TB X b env (.int j)) (h : atI xs j = some d) (hN : X.N[i]? = some n := by rfl) (hv : Vis X.env.scope n := by first | exact Or.inl rfl | exact Or.inr (Or.inl rfl) | exact Or.inr (Or.inr rfl))
    (hd : (n == ("__debug__" : Str)) = false := by decide) (hcd : (n == ("__classdict__" : Str)) = false := by decide) (hs : PlainIx b := by exact fun _ _ => rfl) : PD TB X (.Subscript (.Name n pn) b pos) env d := fun w0 w σ Q k q => by
  obtain ⟨p, h0, s, hp, hf, _, r⟩ := k.own i _ hi
  cases h0 <;> first | exact r.elim | skip
  refine runE (pe_ix ix_list (pe_var hN hv hd hcd) (pe_w b) hs) ⟨.ref p, s, hb w0 w σ _ k fun u w2 g2 l2 r2 => ?_⟩
  cases r2
  obtain ⟨v, e, r'⟩ := reps_at (show Reps X.K w.F _ xs from r) h
  exact ⟨_, _, j, v, rfl, rfl, .inl (.inl (l2.h p _ hp fun _ z => by cases z)), e, q v w2 g2 l2 (r'.mono l2.f)⟩
/-- an attribute of an instance in the making -/
theorem pd_fldo (i j : Nat) {at_ C : Addr} {m n : Str} {ns : List Str} {pn : Pos} (hi : env[i]? = some (Sl.o (.i at_ C ns xs))) (hc : Cls X.K C) (hna : NoAttr X.K C m) (hn : ns.Nodup) (h1 : ns[j]? = some m) (h2 : xs[j]? = some x) (hN : X.N[i]? = some n := by rfl) (hv : Vis X.env.scope n := by first | exact Or.inl rfl | exact Or.inr (Or.inl rfl) | exact Or.inr (Or.inr rfl))
    (hd : (n == ("__debug__" : Str)) = false := by decide) (hcd : (n == ("__classdict__" : Str)) = false := by decide) (hb : attributeBase (.Name n pn) m X.env (eval (.Name n pn) X.env) = eval (.Name n pn) X.env := by rfl) : PD TB X (.Attribute (.Name n pn) m pos) env x := fun w0 w σ Q k q => by
  obtain ⟨p, h0, s, hp, hf, _, r⟩ := k.own i _ hi
  cases h0 <;> first | exact r.elim | skip
  rename_i C' dx fs
  obtain ⟨rfl, rfl, hk, hx⟩ : p = at_ ∧ C' = C ∧ (fs.map fun q => q.1) = ns ∧ Reps X.K w.F (fs.map fun q : Str × V => q.2) xs := r
  obtain ⟨v, e, r⟩ := hx.get h2
  exact runE (pe_fld (pe_var hN hv hd hcd) hb) ⟨.ref p, s, p, _, dx, fs, v, rfl, hp, hc, hna, lookup_some (by rw [hk]; exact hn) (by rw [hk]; exact h1) e, q v w k.good (Le.refl w) r⟩
end

/-! ### statements -/
inductive Out where
  | nx (env : List Sl) | ret (d : D) (env : List Sl) | bk (env : List Sl) | ct (env : List Sl)
structure EndsOk (K : PySem.W.Frag) (TB : Tbs) (w0 w : Wd) (D' : Ends) (R : Out → Prop) : Prop where
  nx : ∀ w' σ' env', Ok K TB w0 w' σ' env' → FLe w.F w'.F → R (.nx env') → D'.nx σ' w'.H
  rt : ∀ v w' σ' env' d, Ok K TB w0 w' σ' env' → Rep K w'.F v d → R (.ret d env') → D'.rt v w'.H
  bk : ∀ w' σ' env', Ok K TB w0 w' σ' env' → FLe w.F w'.F → R (.bk env') → D'.bk σ' w'.H
  ct : ∀ w' σ' env', Ok K TB w0 w' σ' env' → FLe w.F w'.F → R (.ct env') → D'.ct σ' w'.H
def RunS1 (X : Cx) (st : Stmt) (D' : Ends) (σ : L2.St) (H : Hp) : Prop := ∀ (pins : List (Addr × Obj)) (s : Shared), Inv X pins σ H s → wpAny (model X.prog X.w) X.A (exec st X.env) (SP X pins D') X.xe s
def RunS (X : Cx) (st : List Stmt) (D' : Ends) (σ : L2.St) (H : Hp) : Prop := ∀ (pins : List (Addr × Obj)) (s : Shared), Inv X pins σ H s → wpAny (model X.prog X.w) X.A (execs st X.env) (SP X pins D') X.xe s
def wS1 (X : Cx) (st : Stmt) : TS := fun D' σ H => RunS1 X st D' σ H
def wS (X : Cx) (st : List Stmt) : TS := fun D' σ H => RunS X st D' σ H
theorem ps_w {X : Cx} (st : Stmt) : PS X st (wS1 X st) := ⟨fun pins s σ H D' I h => h pins s I⟩
theorem pss_w {X : Cx} (st : List Stmt) : PSs X st (wS X st) := ⟨fun pins s σ H D' I h => h pins s I⟩
theorem runS1 {X : Cx} {st : Stmt} {t : TS} (h : PS X st t) {σ : L2.St} {H : Hp} {D' : Ends} (q : t D' σ H) : RunS1 X st D' σ H := fun pins s I => h.run pins s σ H D' I q
theorem runS {X : Cx} {st : List Stmt} {t : TS} (h : PSs X st t) {σ : L2.St} {H : Hp} {D' : Ends} (q : t D' σ H) : RunS X st D' σ H := fun pins s I => h.run pins s σ H D' I q
/-- the block's ends are among R -/
def SD (TB : Tbs) (X : Cx) (st : List Stmt) (env : List Sl) (R : Out → Prop) : Prop := ∀ (w0 w : Wd) (σ : L2.St) (D' : Ends), Ok X.K TB w0 w σ env → EndsOk X.K TB w0 w D' R → RunS X st D' σ w.H
def SD1 (TB : Tbs) (X : Cx) (st : Stmt) (env : List Sl) (R : Out → Prop) : Prop := ∀ (w0 w : Wd) (σ : L2.St) (D' : Ends), Ok X.K TB w0 w σ env → EndsOk X.K TB w0 w D' R → RunS1 X st D' σ w.H
/-- what a statement has to reach where rest follows -/
def Sq (TB : Tbs) (X : Cx) (rest : List Stmt) (R : Out → Prop) : Out → Prop
  | .nx env => SD TB X rest env R
  | o => R o
section
variable {TB : Tbs} {X : Cx} {env env' : List Sl} {a b c e o tg : Expr} {es : List Expr} {d d1 d2 x y z : D} {ds xs ys : List D} {pos p : Pos} {t : Bool} {st : Stmt} {rest body els : List Stmt} {R R' : Out → Prop}
theorem EndsOk.at {K : PySem.W.Frag} {w0 w w1 : Wd} {D' : Ends} (h : EndsOk K TB w0 w D' R) (f : FLe w.F w1.F) : EndsOk K TB w0 w1 D' R :=
  ⟨fun w' σ' env' k l => h.nx w' σ' env' k (f.trans l), h.rt, fun w' σ' env' k l => h.bk w' σ' env' k (f.trans l), fun w' σ' env' k l => h.ct w' σ' env' k (f.trans l)⟩
theorem SD.mono (h : SD TB X rest env R) (i : ∀ o, R o → R' o) : SD TB X rest env R' := fun w0 w σ D' k e =>
  h w0 w σ D' k ⟨fun w' σ' env' k l r => e.nx w' σ' env' k l (i _ r), fun v w' σ' env' d k r q => e.rt v w' σ' env' d k r (i _ q), fun w' σ' env' k l r => e.bk w' σ' env' k l (i _ r), fun w' σ' env' k l r => e.ct w' σ' env' k l (i _ r)⟩
theorem sd_nil (h : R (.nx env)) : SD TB X [] env R := fun w0 w σ D' k e => runS pss_nil (e.nx w σ env k (FLe.refl _) h)
theorem sd_cons (h : SD1 TB X st env (Sq TB X rest R)) : SD TB X (st :: rest) env R := fun w0 w σ D' k e =>
  runS (pss_cons (ps_w st) (pss_w rest)) (h w0 w σ _ k ⟨fun w' σ' env' k' l r => r w0 w' σ' D' k' (e.at l), e.rt, e.bk, e.ct⟩)
theorem sd_one (h : SD1 TB X st env R) : SD TB X [st] env R := fun w0 w σ D' k e => runS (pss_one (ps_w st)) (h w0 w σ D' k e)
theorem sd_weak (h : Weak env env') (q : SD TB X rest env' R) : SD TB X rest env R := fun w0 w σ D' k e => by
  obtain ⟨w', e1, f, k'⟩ := k.weak h
  have := q w0 w' σ D' k' (e.at f)
  rw [e1] at this
  exact this
/-- x = e -/
theorem sd_set (i : Nat) {n : Str} {p' : Pos} (he : PD TB X e env d) (q : SD TB X rest (env.set i (Sl.d d)) R) (nd : X.N.Nodup) (hi : X.N[i]? = some n := by rfl) (hx : Loc X.env.scope n := by first | exact Or.inl rfl | exact Or.inr rfl)
    (hs : swapsWith e (some (.Name n p')) pos.line X.env = pure false := by rfl) (hf : X.fn n = true ∨ X.env.scope.names.lookup n = some .local := by first | exact .inl rfl | exact .inr rfl) : SD TB X (.Assign [.Name n p'] e pos :: rest) env R :=
  sd_cons fun w0 w σ D' k en => runS1 (ps_set nd hi hx (pe_w e) hs hf) (he w0 w σ _ k fun v w1 g1 l1 r1 => en.nx w1 _ _ ((k.mono g1 l1).set r1) l1.f q)
/-- return e -/
theorem sd_ret (he : PD TB X e env d) (q : R (.ret d env)) : SD TB X (.Return (some e) pos :: rest) env R :=
  sd_cons fun w0 w σ D' k en => runS1 (ps_ret (pe_w e)) (he w0 w σ _ k fun v w1 g1 l1 r1 => en.rt v w1 σ env d (k.mono g1 l1) r1 q)
theorem sd_if (hc : PTd TB X c env t) (ha : t = true → SD TB X body env (Sq TB X rest R)) (hb : t = false → SD TB X els env (Sq TB X rest R)) : SD TB X (.If c body els pos :: rest) env R :=
  sd_cons fun w0 w σ D' k en => runS1 (ps_if (pt_w c) (pss_w body) (pss_w els)) (hc w0 w σ _ k fun w1 g1 l1 => by
    cases t with
    | true => exact iteT (ha rfl w0 w1 σ D' (k.mono g1 l1) (en.at l1.f))
    | false => exact iteF (hb rfl w0 w1 σ D' (k.mono g1 l1) (en.at l1.f)))
/-- if without else -/
theorem sd_when (hc : PTd TB X c env t) (ha : t = true → SD TB X body env (Sq TB X rest R)) (hb : t = false → SD TB X rest env R) : SD TB X (.If c body [] pos :: rest) env R :=
  sd_if hc ha fun h => sd_nil (hb h)
/-- a check that holds: if the wrong comes about, it would be raised -/
theorem sd_check (hc : PTd TB X c env false) (q : SD TB X rest env R) : SD TB X (.If c body [] pos :: rest) env R :=
  sd_when hc (fun h => by cases h) fun _ => q
theorem sd_expr (he : PD TB X e env d) (q : SD TB X rest env R) (hs : swapsWith e none pos.line X.env = pure false := by rfl) : SD TB X (.Expr e pos :: rest) env R :=
  sd_cons fun w0 w σ D' k en => runS1 (ps_expr (pe_w e) hs) (he w0 w σ _ k fun v w1 g1 l1 r1 => en.nx w1 _ _ (k.mono g1 l1) l1.f q)
/-- x = [], a list of the def's own -/
theorem sd_own (i : Nat) {n : Str} {p' p2 : Pos} (q : SD TB X rest (env.set i (Sl.o (.l []))) R) (nd : X.N.Nodup) (hi : X.N[i]? = some n := by rfl) (hx : Loc X.env.scope n := by first | exact Or.inl rfl | exact Or.inr rfl)
    (hs : swapsWith (.List [] p2) (some (.Name n p')) pos.line X.env = pure false := by rfl) (hf : X.fn n = true ∨ X.env.scope.names.lookup n = some .local := by first | exact .inl rfl | exact .inr rfl) : SD TB X (.Assign [.Name n p'] (.List [] p2) pos :: rest) env R :=
  sd_cons fun w0 w σ D' k en => runS1 (ps_set nd hi hx (pe_lst pa_nil) hs hf) ⟨Nat.zero_le _, fun q' hq => en.nx ⟨w.F, upd w.H q' (.lst [])⟩ _ _ (k.lay hq (show OOk X.K w.F q' (.lst []) (.l []) from Reps.nil)) (FLe.refl _) q⟩
/-- x.append(e), x of the def's own -/
theorem sd_app (i : Nat) {n : Str} {pn p1 p2 : Pos} (hi : env[i]? = some (Sl.o (.l xs))) (he : PD TB X e env d) (hl : xs.length < 100000) (q : SD TB X rest (env.set i (Sl.o (.l (xs ++ [d])))) R) (hN : X.N[i]? = some n := by rfl) (hv : Vis X.env.scope n := by first | exact Or.inl rfl | exact Or.inr (Or.inl rfl) | exact Or.inr (Or.inr rfl))
    (hd : (n == ("__debug__" : Str)) = false := by decide) (hcd : (n == ("__classdict__" : Str)) = false := by decide)
    (hbase : attributeBase (.Name n pn) "append" X.env (eval (.Name n pn) X.env) = eval (.Name n pn) X.env := by rfl)
    (hfew : ((backTo p2 (starEach [e] X.env)).all (fun x => !x.1) && (backToKw p2 (keywordEach [] X.env)).all (fun x => x.1.isSome)
      && decide ([e].length + ([] : List Keyword).length + (if ([] : List Keyword).isEmpty then 0 else 1) < 30)) = true := by rfl)
    (hline : (p1.endLine == p2.line) = true := by rfl) (hst : starEach [e] X.env = (false, eval e X.env) :: starEach [] X.env := by rfl) (hplain : (backTo p2 (starEach [] X.env)).any (·.1) = false := by rfl)
    (hs : swapsWith (.Call (.Attribute (.Name n pn) "append" p1) [e] [] p2) none pos.line X.env = pure false := by rfl) : SD TB X (.Expr (.Call (.Attribute (.Name n pn) "append" p1) [e] [] p2) pos :: rest) env R :=
  sd_cons fun w0 w σ D' k en => by
    obtain ⟨p, h0, s, hp, hf, h0n, r⟩ := k.own i _ hi
    cases h0 <;> first | exact r.elim | skip
    rename_i vs
    have r : Reps X.K w.F vs xs := r
    refine runS1 (ps_expr (pe_bm PySem.F.plainAttrs_list PySem.F.slot_list_append PySem.F.type_list_append (mt_append) (pe_var hN hv hd hcd) (pa_cons (pe_w e) pa_nil hst) hbase hfew hline hst hplain) hs) ⟨.ref p, s, .inl ⟨rfl, _, .inl (.inl hp)⟩, he w0 w σ _ k fun v w1 g1 l1 r1 => ?_⟩
    have hp1 : w1.H p = some (.lst vs) := l1.h p _ hp fun _ z => by cases z
    refine ⟨p, vs, v, rfl, rfl, hp1, by rw [r.length]; exact size_lt hl, ?_⟩
    exact en.nx ⟨w1.F, upd w1.H p (.lst (vs ++ [v]))⟩ _ _ ((k.mono g1 l1).chg (h := .lst (vs ++ [v])) (y := .l (xs ++ [d])) hi s ((r.mono l1.f).append (.cons r1 .nil))) l1.f q
/-- x.extend(e) -/
theorem sd_ext (i : Nat) {n : Str} {pn p1 p2 : Pos} (hi : env[i]? = some (Sl.o (.l xs))) (he : PD TB X e env (.lst ds)) (hl : xs.length + ds.length ≤ 100000) (q : SD TB X rest (env.set i (Sl.o (.l (xs ++ ds)))) R) (hN : X.N[i]? = some n := by rfl) (hv : Vis X.env.scope n := by first | exact Or.inl rfl | exact Or.inr (Or.inl rfl) | exact Or.inr (Or.inr rfl))
    (hd : (n == ("__debug__" : Str)) = false := by decide) (hcd : (n == ("__classdict__" : Str)) = false := by decide)
    (hbase : attributeBase (.Name n pn) "extend" X.env (eval (.Name n pn) X.env) = eval (.Name n pn) X.env := by rfl)
    (hfew : ((backTo p2 (starEach [e] X.env)).all (fun x => !x.1) && (backToKw p2 (keywordEach [] X.env)).all (fun x => x.1.isSome)
      && decide ([e].length + ([] : List Keyword).length + (if ([] : List Keyword).isEmpty then 0 else 1) < 30)) = true := by rfl)
    (hline : (p1.endLine == p2.line) = true := by rfl) (hst : starEach [e] X.env = (false, eval e X.env) :: starEach [] X.env := by rfl) (hplain : (backTo p2 (starEach [] X.env)).any (·.1) = false := by rfl)
    (hs : swapsWith (.Call (.Attribute (.Name n pn) "extend" p1) [e] [] p2) none pos.line X.env = pure false := by rfl) : SD TB X (.Expr (.Call (.Attribute (.Name n pn) "extend" p1) [e] [] p2) pos :: rest) env R :=
  sd_cons fun w0 w σ D' k en => by
    obtain ⟨p, h0, s, hp, hf, h0n, r⟩ := k.own i _ hi
    cases h0 <;> first | exact r.elim | skip
    rename_i vs
    have r : Reps X.K w.F vs xs := r
    refine runS1 (ps_expr (pe_bm PySem.F.plainAttrs_list PySem.F.slot_list_extend PySem.F.type_list_extend (mt_extend) (pe_var hN hv hd hcd) (pa_cons (pe_w e) pa_nil hst) hbase hfew hline hst hplain) hs) ⟨.ref p, s, .inl ⟨rfl, _, .inl (.inl hp)⟩, he w0 w σ _ k fun v w1 g1 l1 r1 => ?_⟩
    have hp1 : w1.H p = some (.lst vs) := l1.h p _ hp fun _ z => by cases z
    cases r1 with
    | lst h1 h2 =>
      refine ⟨p, _, vs, _, rfl, rfl, hp1, g1.sub _ _ h1, by rw [r.length, h2.length]; exact size_small hl, ?_⟩
      exact en.nx ⟨w1.F, upd w1.H p (.lst (vs ++ _))⟩ _ _ ((k.mono g1 l1).chg (h := .lst (vs ++ _)) (y := .l (xs ++ ds)) hi s ((r.mono l1.f).append h2)) l1.f q
/-- x[j] = e -/
theorem sd_setL (i j : Nat) {jj : Int} {n : Str} {pn p1 : Pos} (hi : env[i]? = some (Sl.o (.l xs))) (he : PD TB X e env d) (hb : PD TB X b env (.int jj)) (hj : ixN xs.length jj = some j) (q : SD TB X rest (env.set i (Sl.o (.l (xs.set j d)))) R) (hN : X.N[i]? = some n := by rfl) (hv : Vis X.env.scope n := by first | exact Or.inl rfl | exact Or.inr (Or.inl rfl) | exact Or.inr (Or.inr rfl))
    (hd : (n == ("__debug__" : Str)) = false := by decide) (hcd : (n == ("__classdict__" : Str)) = false := by decide)
    (ha : ∀ v, assign (.Subscript (.Name n pn) b p1) X.env v = (do
      let ov ← holding [v] (eval (.Name n pn) X.env)
      let iv ← holding [v, ov] (eval b X.env)
      standAt p1
      holding [v, ov, iv] (setItem ov iv v)
      release [v, ov, iv] []) := by intro _; rfl)
    (hs : swapsWithSole [.Subscript (.Name n pn) b p1] e pos.line X.env = pure false := by rfl) (hw : swappedStores [.Subscript (.Name n pn) b p1] e X.env = pure none := by rfl)
    (h1 : (assignEach [.Subscript (.Name n pn) b p1] X.env).map (·.2) = [assign (.Subscript (.Name n pn) b p1) X.env] := by rfl) : SD TB X (.Assign [.Subscript (.Name n pn) b p1] e pos :: rest) env R :=
  sd_cons fun w0 w σ D' k en => by
    obtain ⟨p, h0, s, hp, hf, h0n, r⟩ := k.own i _ hi
    cases h0 <;> first | exact r.elim | skip
    rename_i vs
    have r : Reps X.K w.F vs xs := r
    refine runS1 (ps_asg (pe_w e) (pg_sub (pe_var hN hv hd hcd) (pe_w b) set_list ha) hs hw h1) (he w0 w σ _ k fun v w1 g1 l1 r1 => ⟨.ref p, s, hb w0 w1 σ _ (k.mono g1 l1) fun u w2 g2 l2 r2 => ?_⟩)
    cases r2
    have hp2 : w2.H p = some (.lst vs) := l2.h p _ (l1.h p _ hp fun _ z => by cases z) fun _ z => by cases z
    refine ⟨p, vs, jj, j, rfl, rfl, hp2, by rw [r.length]; exact hj, ?_⟩
    exact en.nx ⟨w2.F, upd w2.H p (.lst (vs.set j v))⟩ _ _ (((k.mono g1 l1).mono g2 l2).chg (h := .lst (vs.set j v)) (y := .l (xs.set j d)) hi s (Reps.set (r1.mono l2.f) j (r.mono (l1.f.trans l2.f)))) (l1.f.trans l2.f) q
/-- self.f = e, in __init__ -/
theorem sd_fld (i : Nat) {at_ C : Addr} {m n : Str} {ns : List Str} {pn p1 : Pos} (hi : env[i]? = some (Sl.o (.i at_ C ns xs))) (he : PD TB X e env d) (hc : Cls X.K C) (hna : NoAttr X.K C m) (hm : m ∉ ns) (hl : ns.length < 900) (q : SD TB X rest (env.set i (Sl.o (.i at_ C (ns ++ [m]) (xs ++ [d])))) R) (hN : X.N[i]? = some n := by rfl) (hv : Vis X.env.scope n := by first | exact Or.inl rfl | exact Or.inr (Or.inl rfl) | exact Or.inr (Or.inr rfl))
    (hd : (n == ("__debug__" : Str)) = false := by decide) (hcd : (n == ("__classdict__" : Str)) = false := by decide)
    (hs : swapsWith e (some (.Attribute (.Name n pn) m p1)) pos.line X.env = pure false := by rfl) : SD TB X (.Assign [.Attribute (.Name n pn) m p1] e pos :: rest) env R :=
  sd_cons fun w0 w σ D' k en => by
    obtain ⟨p, h0, s, hp, hf, h0n, r⟩ := k.own i _ hi
    cases h0 <;> first | exact r.elim | skip
    rename_i C' dx fs
    obtain ⟨rfl, rfl, hk, hx⟩ : p = at_ ∧ C' = C ∧ (fs.map fun q => q.1) = ns ∧ Reps X.K w.F (fs.map fun q : Str × V => q.2) xs := r
    have put : ∀ (v : V) (l : List (Str × V)), m ∉ l.map (·.1) → putF m v l = l ++ [(m, v)] := fun v l => by
      induction l with
      | nil => exact fun _ => rfl
      | cons a l ih =>
        intro h
        rw [List.map_cons, List.mem_cons, not_or] at h
        have e : putF m v (a :: l) = if a.1 = m then (a.1, v) :: l else a :: putF m v l := rfl
        rw [e, if_neg (Ne.symm h.1), ih h.2, List.cons_append]
    refine runS1 (ps_fld (pe_var hN hv hd hcd) (pe_w e) hs) (he w0 w σ _ k fun v w1 g1 l1 r1 => ⟨.ref p, s, ?_⟩)
    have hp1 : w1.H p = some (.ins C' dx fs) := l1.h p _ hp fun _ z => by cases z
    refine ⟨p, C', dx, fs, rfl, hp1, hc, hna, ?_, ?_⟩
    · have : fs.length = ns.length := by rw [← hk, List.length_map]
      omega
    · rw [put v fs (by rw [hk]; exact hm)]
      refine en.nx ⟨w1.F, upd w1.H p (.ins C' dx (fs ++ [(m, v)]))⟩ _ _ ((k.mono g1 l1).chg (h := .ins C' dx (fs ++ [(m, v)])) (y := .i p C' (ns ++ [m]) (xs ++ [d])) hi s ⟨rfl, rfl, ?_, ?_⟩) l1.f q
      · rw [List.map_append, hk]
        rfl
      · rw [List.map_append]
        exact (hx.mono l1.f).append (.cons r1 .nil)
end
end Lw
set_option Elab.async false
set_option linter.all false
set_option maxRecDepth 100000
set_option maxHeartbeats 4000000
/-! # Targets, loops, comprehensions -/
namespace Lw
open PySem PySem.Spec PyProof.Rows L2

/-! ### targets -/
def RunG (X : Cx) (tg : Expr) (v : V) (σ : L2.St) (H : Hp) (Q : L2.St → Hp → Prop) : Prop := ∀ (pins : List (Addr × Obj)) (s : Shared) (u : Value), Inv X pins σ H s → RelV v u → wpAny (model X.prog X.w) X.A (assign tg X.env u) (fun _ s' => ∃ σ' H', Inv X pins σ' H' s' ∧ Q σ' H') X.xe s
def wG (X : Cx) (tg : Expr) : TG := fun v σ H Q => RunG X tg v σ H Q
theorem pg_w {X : Cx} (tg : Expr) : PG X tg (wG X tg) := ⟨fun pins s σ H v u Q I r h => h pins s u I r⟩
theorem runG {X : Cx} {tg : Expr} {t : TG} (h : PG X tg t) {v : V} {σ : L2.St} {H : Hp} {Q : L2.St → Hp → Prop} (q : t v σ H Q) : RunG X tg v σ H Q := fun pins s u I r => h.run pins s σ H v u Q I r q
/-- only the slots is have changed -/
def Sets (is : List Nat) (σ σ' : L2.St) : Prop := σ'.length = σ.length ∧ ∀ j, j ∉ is → σ'[j]? = σ[j]?
/-- the datum x goes into the target, whose slots are is -/
def PGd (TB : Tbs) (X : Cx) (tg : Expr) (env : List Sl) (x : D) (env' : List Sl) (is : List Nat) : Prop := ∀ (w0 w : Wd) (σ : L2.St) (v : V) (Q : L2.St → Hp → Prop), Ok X.K TB w0 w σ env → Rep X.K w.F v x → (∀ σ', Ok X.K TB w0 w σ' env' → Sets is σ σ' → Q σ' w.H) → RunG X tg v σ w.H Q
def PGsd (TB : Tbs) (X : Cx) (tgs : List Expr) (env : List Sl) (xs : List D) (env' : List Sl) (is : List Nat) (t : TGs) : Prop := PGs X tgs t ∧ ∀ (w0 w : Wd) (σ : L2.St) (vs : List V) (Q : L2.St → Hp → Prop), Ok X.K TB w0 w σ env → Reps X.K w.F vs xs → (∀ σ', Ok X.K TB w0 w σ' env' → Sets is σ σ' → Q σ' w.H) → t vs σ w.H Q
section
variable {TB : Tbs} {X : Cx} {env env' env'' : List Sl} {tg e : Expr} {tgs : List Expr} {x y : D} {xs ds : List D} {pos : Pos}
theorem pgd_name (i : Nat) {n : Str} (nd : X.N.Nodup) (hi : X.N[i]? = some n := by rfl) (hx : Loc X.env.scope n := by first | exact Or.inl rfl | exact Or.inr rfl) (hf : X.fn n = true ∨ X.env.scope.names.lookup n = some .local := by first | exact .inl rfl | exact .inr rfl) :
    PGd TB X (.Name n pos) env x (env.set i (Sl.d x)) [i] := fun w0 w σ v Q k r q => runG (pg_name nd hi hx hf) (q _ (k.set r) ⟨List.length_set, fun j hj => List.getElem?_set_ne (fun z => hj (by simp [z]))⟩)
variable {is js : List Nat}
theorem pgsd_nil : PGsd TB X [] env [] env [] gNil := ⟨pgs_nil, fun w0 w σ vs Q k r q => by
  cases r
  exact ⟨rfl, q σ k ⟨rfl, fun _ _ => rfl⟩⟩⟩
theorem pgsd_cons {t : TGs} (h1 : PGd TB X tg env x env' is) (h2 : PGsd TB X tgs env' xs env'' js t) (hs : (assignEach (tg :: tgs) X.env).map (·.2) = assign tg X.env :: (assignEach tgs X.env).map (·.2) := by rfl) : PGsd TB X (tg :: tgs) env (x :: xs) env'' (is ++ js) (gCons (wG X tg) t) :=
  ⟨pgs_cons (pg_w tg) h2.1 hs, fun w0 w σ vs Q k r q => by
    cases r with
    | cons r1 r2 => exact ⟨_, _, rfl, h1 w0 w σ _ _ k r1 fun σ' k' s1 => h2.2 w0 w σ' _ Q k' r2 fun σ2 k2 s2 => q σ2 k2 ⟨s2.1.trans s1.1, fun j hj => by
      rw [List.mem_append, not_or] at hj
      exact (s2.2 j hj.2).trans (s1.2 j hj.1)⟩⟩⟩
theorem pgd_tup {j : Nat} {t : TGs} (h : PGsd TB X tgs env xs env' is t) (hc : X.calm = true := by rfl) (hn : (assignEach tgs X.env).length = xs.length := by rfl) (hst : (assignEach tgs X.env).findIdx? (·.1) = none := by rfl) : PGd TB X (.Tuple tgs j pos) env (.tup xs) env' is := fun w0 w σ v Q k r q => by
  cases r with
  | tup h1 h2 => exact runG (pg_tup hc h.1 hn hst) ⟨_, _, rfl, k.good.sub.sqt h1, h2.length, h.2 w0 w σ _ Q k h2 q⟩
/-- target = e -/
theorem sd_unpack {rest : List Stmt} {R : Out → Prop} (he : PD TB X e env x) (hg : PGd TB X tg env x env' is) (q : SD TB X rest env' R) (hs : swapsWithSole [tg] e pos.line X.env = pure false := by rfl) (hw : swappedStores [tg] e X.env = pure none := by rfl)
    (h1 : (assignEach [tg] X.env).map (·.2) = [assign tg X.env] := by rfl) : SD TB X (.Assign [tg] e pos :: rest) env R :=
  sd_cons fun w0 w σ D' k en => runS1 (ps_asg (pe_w e) (pg_w tg) hs hw h1) (he w0 w σ _ k fun v w1 g1 l1 r1 => hg w0 w1 σ v _ (k.mono g1 l1) r1 fun σ' k' _ => en.nx w1 σ' _ k' l1.f q)
end

/-! ### what is walked -/
/-- the iterator J yields xs as long as what stood at w.F stands -/
def ItOk (K : PySem.W.Frag) (TB : Tbs) (J : It) (w : Wd) (xs : List D) : Prop :=
  (∀ i w', Good TB w' → FLe w.F w'.F → i < xs.length → J.go i w'.H ∧ ∀ v H', J.yld i w'.H v H' → ∃ w'', w''.H = H' ∧ Good TB w'' ∧ Le w' w'' ∧ ∀ d, xs[i]? = some d → Rep K w''.F v d) ∧
  (∀ w', Good TB w' → FLe w.F w'.F → J.stop xs.length w'.H)
def RunI (X : Cx) (tg iter : Expr) (σ : L2.St) (H : Hp) (R : It → Hp → Prop) : Prop := ∀ (pins : List (Addr × Obj)) (s : Shared), Inv X pins σ H s → wpAny (model X.prog X.w) X.A (eval iter X.env) (fun v s1 => wpAny (model X.prog X.w) X.A (pyIter v) (PIE X pins σ tg R) X.xe s1) X.xe s
def wI (X : Cx) (tg iter : Expr) : TI := fun σ H R => RunI X tg iter σ H R
theorem pi_w {X : Cx} (tg iter : Expr) : PI X tg iter (wI X tg iter) := ⟨fun pins s σ H R I h => h pins s I⟩
theorem runI {X : Cx} {tg iter : Expr} {t : TI} (h : PI X tg iter t) {σ : L2.St} {H : Hp} {R : It → Hp → Prop} (q : t σ H R) : RunI X tg iter σ H R := fun pins s I => h.run pins s σ H R I q
/-- iter gives the data xs, one by one -/
def PId (TB : Tbs) (X : Cx) (tg iter : Expr) (env : List Sl) (xs : List D) : Prop := ∀ (w0 w : Wd) (σ : L2.St) (R : It → Hp → Prop), Ok X.K TB w0 w σ env → (∀ J w', Good TB w' → Le w w' → ItOk X.K TB J w' xs → R J w'.H) → RunI X tg iter σ w.H R
section
variable {TB : Tbs} {X : Cx} {env env' env'' : List Sl} {tg e a b c : Expr} {tgs : List Expr} {x y : D} {xs ys ds : List D} {pos p : Pos}
theorem pid_list (he : PD TB X e env (.lst xs)) : PId TB X tg e env xs := fun w0 w σ R k q =>
  runI (pi_list (pe_w e)) (he w0 w σ _ k fun v w1 g1 l1 r1 => by
    cases r1 with
    | lst h1 h2 =>
      rename_i p vs
      refine ⟨p, rfl, ⟨vs, .inl (.inl (g1.sub _ _ h1))⟩, q _ w1 g1 l1 ⟨fun i w' g' f' hi => ?_, fun w' g' f' => ⟨vs, .inl (.inl (g'.sub _ _ (f' _ _ h1))), by rw [h2.length]; exact Nat.le_refl _⟩⟩⟩
      have hl : i < vs.length := by rw [h2.length]; exact hi
      have sq : SqL X.K w'.H p vs := .inl (.inl (g'.sub _ _ (f' _ _ h1)))
      refine ⟨⟨vs, vs[i], sq, List.getElem?_eq_getElem hl⟩, fun v H' y => ?_⟩
      obtain ⟨rfl, y⟩ := y
      refine ⟨w', rfl, g', Le.refl w', fun d hd => ?_⟩
      obtain ⟨u, e1, r⟩ := h2.get hd
      have := y vs sq
      rw [e1] at this
      cases this
      exact r.mono f')
theorem pid_tup (he : PD TB X e env (.tup xs)) : PId TB X tg e env xs := fun w0 w σ R k q =>
  runI (pi_tup (pe_w e)) (he w0 w σ _ k fun v w1 g1 l1 r1 => by
    cases r1 with
    | tup h1 h2 =>
      rename_i p vs
      refine ⟨p, rfl, ⟨vs, g1.sub.sqt h1⟩, q _ w1 g1 l1 ⟨fun i w' g' f' hi => ?_, fun w' g' f' => ⟨vs, g'.sub.sqt (f'.sqt h1), by rw [h2.length]; exact Nat.le_refl _⟩⟩⟩
      have hl : i < vs.length := by rw [h2.length]; exact hi
      have sq : SqT X.K w'.H p vs := g'.sub.sqt (f'.sqt h1)
      refine ⟨⟨vs, vs[i], sq, List.getElem?_eq_getElem hl⟩, fun v H' y => ?_⟩
      obtain ⟨rfl, y⟩ := y
      refine ⟨w', rfl, g', Le.refl w', fun d hd => ?_⟩
      obtain ⟨u, e1, r⟩ := h2.get hd
      have := y vs sq
      rw [e1] at this
      cases this
      exact r.mono f')
theorem itOk_range {K : PySem.W.Frag} {w : Wd} {n : Nat} : ItOk K TB (Itr 0 n) w (rgD n) := ⟨fun i w' g' f' hi => ⟨by rw [rgD_length] at hi; exact hi, fun v H' y => by
    obtain ⟨rfl, rfl⟩ := y
    refine ⟨w', rfl, g', Le.refl w', fun d hd => ?_⟩
    unfold rgD at hd
    rw [List.getElem?_map, List.getElem?_range (by rw [rgD_length] at hi; exact hi)] at hd
    cases hd
    rw [Int.zero_add]
    exact .int⟩, fun w' g' f' => by rw [rgD_length]; exact Nat.le_refl _⟩
theorem pid_range {n : Nat} (hm : X.mg "range" = none) (ha : PD TB X a env (.int n)) (hn : n ≤ 100000) (hg : Gl X "range" := by rfl) (hs : starEach [a] X.env = [(false, eval a X.env)] := by rfl) : PId TB X tg (.Call (.Name "range" p) [a] [] pos) env (rgD n) := fun w0 w σ R k q =>
  runI (pi_range1 hg hm (pa_w [a]) hs) (pds_cons ha pds_nil hs w0 w σ _ k fun vs w1 g1 l1 r1 => by
    cases r1 with
    | cons r1 r2 =>
      cases r2; cases r1
      exact ⟨(n : Int), rfl, by omega, by omega, q _ w1 g1 l1 itOk_range⟩)
/-- enumerate(list) -/
def enumD (xs : List D) : List D := xs.zipIdx.map fun q => .tup [.int ((q.2 : Nat) : Int), q.1]
theorem enumD_length (xs : List D) : (enumD xs).length = xs.length := by
  unfold enumD
  rw [List.length_map, List.length_zipIdx]
theorem enumD_get {i : Nat} : (enumD xs)[i]? = (xs[i]?).map fun d => .tup [.int (i : Int), d] := by
  unfold enumD
  rw [List.getElem?_map, List.getElem?_zipIdx]
  cases xs[i]? with
  | none => rfl
  | some d => simp
theorem pid_enum {j : Nat} {tpos : Pos} (hm : X.mg "enumerate" = none) (he : PD TB X a env (.lst xs)) (hg : Gl X "enumerate" := by rfl) (hs : starEach [a] X.env = [(false, eval a X.env)] := by rfl) : PId TB X (.Tuple tgs j tpos) (.Call (.Name "enumerate" p) [a] [] pos) env (enumD xs) := fun w0 w σ R k q =>
  runI (pi_enum hg hm (pa_w [a]) hs) (pds_cons he pds_nil hs w0 w σ _ k fun vs w1 g1 l1 r1 => by
    cases r1 with
    | cons r1 r2 =>
      cases r2
      cases r1 with
      | lst h1 h2 =>
        rename_i p vs
        refine ⟨p, vs, rfl, .inl (.inl (g1.sub _ _ h1)), q _ w1 g1 l1 ⟨fun i w' g' f' hi => ?_, fun w' g' f' => ⟨vs, .inl (.inl (g'.sub _ _ (f' _ _ h1))), by rw [h2.length, enumD_length]; exact Nat.le_refl _⟩⟩⟩
        rw [enumD_length] at hi
        have hl : i < vs.length := by rw [h2.length]; exact hi
        have sq : SqL X.K w'.H p vs := .inl (.inl (g'.sub _ _ (f' _ _ h1)))
        refine ⟨⟨vs, vs[i], sq, List.getElem?_eq_getElem hl⟩, fun v H' y => ?_⟩
        obtain ⟨T, z, rfl, nT, rfl, y⟩ := y
        have hf := g'.fresh nT
        refine ⟨⟨upd w'.F T _, upd w'.H T _⟩, rfl, g'.new nT (fun _ z => by cases z), Le.new nT hf, fun d hd => ?_⟩
        rw [enumD_get] at hd
        cases hx : xs[i]? with
        | none =>
          rw [hx] at hd
          cases hd
        | some d' =>
          rw [hx] at hd
          cases hd
          obtain ⟨u, e1, r⟩ := h2.get hx
          have := y vs sq
          rw [e1] at this
          cases this
          exact .tup (.inl (.inl upd_same)) (.cons .int (.cons ((r.mono f').mono (FLe.new hf)) .nil)))
/-- zip(list, list) -/
def zipD (xs ys : List D) : List D := (xs.zip ys).map fun q => .tup [q.1, q.2]
theorem pid_zip {j : Nat} {tpos : Pos} (hm : X.mg "zip" = none) (ha : PD TB X a env (.lst xs)) (hb : PD TB X b env (.lst ys)) (hg : Gl X "zip" := by rfl) (hs : starEach [a, b] X.env = (false, eval a X.env) :: starEach [b] X.env := by rfl) (hs2 : starEach [b] X.env = (false, eval b X.env) :: starEach [] X.env := by rfl)
    (hpl : (backTo pos (starEach [b] X.env)).any (·.1) = false := by rfl) : PId TB X (.Tuple tgs j tpos) (.Call (.Name "zip" p) [a, b] [] pos) env (zipD xs ys) := fun w0 w σ R k q =>
  runI (pi_zip hg hm (pa_w [a, b]) hs hpl) (pds_cons ha (pds_cons hb pds_nil hs2) hs w0 w σ _ k fun vs w1 g1 l1 r1 => by
    cases r1 with
    | cons r1 r2 =>
      cases r2 with
      | cons r2 r3 =>
        cases r3
        cases r1 with
        | lst h1 h2 =>
          rename_i p vs
          cases r2 with
          | lst h3 h4 =>
            rename_i p2 ws
            have len : (zipD xs ys).length = min xs.length ys.length := by
              unfold zipD
              rw [List.length_map, List.length_zip]
            refine ⟨p, p2, vs, ws, rfl, .inl (.inl (g1.sub _ _ h1)), .inl (.inl (g1.sub _ _ h3)), q _ w1 g1 l1 ⟨fun i w' g' f' hi => ?_, fun w' g' f' => ⟨vs, ws, .inl (.inl (g'.sub _ _ (f' _ _ h1))), .inl (.inl (g'.sub _ _ (f' _ _ h3))), ?_⟩⟩⟩
            · rw [len] at hi
              have hl : i < vs.length := by rw [h2.length]; omega
              have hl2 : i < ws.length := by rw [h4.length]; omega
              have sq : SqL X.K w'.H p vs := .inl (.inl (g'.sub _ _ (f' _ _ h1)))
              have sq2 : SqL X.K w'.H p2 ws := .inl (.inl (g'.sub _ _ (f' _ _ h3)))
              refine ⟨⟨vs, ws, vs[i], ws[i], sq, sq2, List.getElem?_eq_getElem hl, List.getElem?_eq_getElem hl2⟩, fun v H' y => ?_⟩
              obtain ⟨T, z, z2, rfl, nT, rfl, y, y2⟩ := y
              have hf := g'.fresh nT
              refine ⟨⟨upd w'.F T _, upd w'.H T _⟩, rfl, g'.new nT (fun _ z => by cases z), Le.new nT hf, fun d hd => ?_⟩
              unfold zipD at hd
              rw [List.getElem?_map] at hd
              cases hx : (xs.zip ys)[i]? with
              | none =>
                rw [hx] at hd
                cases hd
              | some d' =>
                rw [hx] at hd
                cases hd
                obtain ⟨hx1, hx2⟩ := List.getElem?_zip_eq_some.mp hx
                obtain ⟨u, e1, r⟩ := h2.get hx1
                obtain ⟨u2, e2, r2⟩ := h4.get hx2
                have := y vs sq
                rw [e1] at this
                cases this
                have := y2 ws sq2
                rw [e2] at this
                cases this
                exact .tup (.inl (.inl upd_same)) (.cons ((r.mono f').mono (FLe.new hf)) (.cons ((r2.mono f').mono (FLe.new hf)) .nil))
            · rw [len, h2.length, h4.length]
              omega)
/-- a text, sign by sign -/
def signsD (s : Str) : List D := s.cps.toList.map fun c => .str ⟨#[c]⟩
theorem pid_str {s : Str} (he : PD TB X e env (.str s)) : PId TB X tg e env (signsD s) := fun w0 w σ R k q =>
  runI (pi_str (pe_w e)) (he w0 w σ _ k fun v w1 g1 l1 r1 => by
    cases r1
    have len : (signsD s).length = s.length := by
      unfold signsD
      rw [List.length_map, Array.length_toList]
      rfl
    refine ⟨s, rfl, q _ w1 g1 l1 ⟨fun i w' g' f' hi => ?_, fun w' g' f' => ?_⟩⟩
    · have hi' : i < s.cps.size := by
        rw [len] at hi
        exact hi
      refine ⟨?_, fun v H' y => ?_⟩
      · first | exact hi' | exact ⟨_, Array.getElem?_eq_getElem hi'⟩
      · first
          | (obtain ⟨rfl, c, hc, rfl⟩ := y
             refine ⟨w', rfl, g', Le.refl w', fun d hd => ?_⟩
             unfold signsD at hd
             rw [List.getElem?_map, Array.getElem?_toList, hc] at hd
             cases hd
             exact .str)
          | (obtain ⟨c, hc, rfl, rfl⟩ := y
             refine ⟨w', rfl, g', Le.refl w', fun d hd => ?_⟩
             unfold signsD at hd
             rw [List.getElem?_map, Array.getElem?_toList, hc] at hd
             cases hd
             exact .str)
    · rw [len]
      first | exact Nat.le_refl _ | exact Array.getElem?_eq_none (Nat.le_refl _))
end

/-! ### for -/
section
variable {TB : Tbs} {X : Cx} {env env' : List Sl} {tg e iter elt : Expr} {x y : D} {xs ds : List D} {pos p : Pos} {body rest : List Stmt} {R : Out → Prop}
/-- I: what the slots are ahead of turn i (up to forgetting) -/
theorem sd1_for (I : Nat → List Sl → Prop) (hi : PId TB X tg iter env xs) (h0 : I 0 env)
    (step : ∀ i d l, xs[i]? = some d → I i l → ∃ l' is, PGd TB X tg l d l' is ∧ SD TB X body l' (fun o => match o with
      | .nx m => ∃ m', Weak m m' ∧ I (i + 1) m'
      | .ct m => ∃ m', Weak m m' ∧ I (i + 1) m'
      | .bk m => R (.nx m)
      | .ret d m => R (.ret d m)))
    (done : ∀ l, I xs.length l → R (.nx l)) (hp : PassesOwn (model X.prog X.w) X.A X.env X.xe := by exact PassesOwn.never) (hc : X.calm = true := by rfl) (hs : ∀ x, foldedSetIterable iter X.env x = pure x := by intro _; rfl) : SD1 TB X (.For tg iter body [] pos) env R :=
  fun w0 w σ D' k en => runS1 (ps_for hp hc (pi_w tg iter) (pg_w tg) (pss_w body) hs) (hi w0 w σ _ k fun J w1 g1 l1 it => by
    have en1 := en.at l1.f
    refine ⟨fun i m σ' H' => m = xs.length - i ∧ i ≤ xs.length ∧ ∃ w' l, w'.H = H' ∧ FLe w1.F w'.F ∧ Ok X.K TB w0 w' σ' l ∧ I i l, ⟨xs.length, by simp, Nat.zero_le _, w1, env, rfl, FLe.refl _, k.mono g1 l1, h0⟩, ?_⟩
    rintro i m σ' H' ⟨rfl, hle, w', l, rfl, f', k', hI⟩
    by_cases hlt : i < xs.length
    · obtain ⟨go, yl⟩ := it.1 i w' k'.good f' hlt
      refine .inr ⟨go, fun σ2 H2 => i + 1 ≤ xs.length ∧ ∃ w' l, w'.H = H2 ∧ FLe w1.F w'.F ∧ Ok X.K TB w0 w' σ2 l ∧ I (i + 1) l, fun σ2 H2 ⟨a, b⟩ => ⟨xs.length - (i + 1), by omega, rfl, a, b⟩, fun v H2 y => ?_⟩
      obtain ⟨w2, rfl, g2, l2, r2⟩ := yl v H2 y
      obtain ⟨l', is, hg, hb⟩ := step i xs[i] l (List.getElem?_eq_getElem hlt) hI
      refine hg w0 w2 σ' v _ (k'.mono g2 l2) (r2 _ (List.getElem?_eq_getElem hlt)) fun σ3 k3 _ => ?_
      have f2 : FLe w1.F w2.F := f'.trans l2.f
      refine hb w0 w2 σ3 _ k3 ⟨fun w4 σ4 m4 k4 f4 r4 => ?_, fun v4 w4 σ4 m4 d4 k4 r4 q4 => en1.rt v4 w4 σ4 m4 d4 k4 r4 q4, fun w4 σ4 m4 k4 f4 r4 => en1.nx w4 σ4 m4 k4 (f2.trans f4) r4, fun w4 σ4 m4 k4 f4 r4 => ?_⟩
      all_goals
        obtain ⟨m', hw, hI'⟩ := r4
        obtain ⟨w5, e5, f5, k5⟩ := k4.weak hw
        exact ⟨hlt, w5, m', e5, (f2.trans f4).trans f5, k5, hI'⟩
    · have e : i = xs.length := by omega
      subst e
      exact .inl ⟨it.2 w' k'.good f', en1.nx w' σ' l k' f' (done l hI)⟩)
theorem sd_for (I : Nat → List Sl → Prop) (hi : PId TB X tg iter env xs) (h0 : I 0 env)
    (step : ∀ i d l, xs[i]? = some d → I i l → ∃ l' is, PGd TB X tg l d l' is ∧ SD TB X body l' (fun o => match o with
      | .nx m => ∃ m', Weak m m' ∧ I (i + 1) m'
      | .ct m => ∃ m', Weak m m' ∧ I (i + 1) m'
      | .bk m => SD TB X rest m R
      | .ret d m => R (.ret d m)))
    (done : ∀ l, I xs.length l → SD TB X rest l R) (hp : PassesOwn (model X.prog X.w) X.A X.env X.xe := by exact PassesOwn.never) (hc : X.calm = true := by rfl) (hs : ∀ x, foldedSetIterable iter X.env x = pure x := by intro _; rfl) : SD TB X (.For tg iter body [] pos :: rest) env R :=
  sd_cons (sd1_for (R := Sq TB X rest R) I hi h0 step done hp hc hs)
end
/-! ### comprehensions -/
abbrev Blk (X : Cx) (scope : Scope) (s : Shared) (H : Hp) (C : Addr) (cl : List (Str × Addr)) (fp : List Addr) : Cx := X.blk s H scope (compEnvC scope cl C X.env) fp
def wipeS (env : List Sl) : List Nat → List Sl
  | [] => env
  | v :: vs => (wipeS env vs).set v .no
theorem set_none_ok {K : PySem.W.Frag} {TB : Tbs} {w0 w : Wd} {σ : L2.St} {env : List Sl} (k : Ok K TB w0 w σ env) (i : Nat) : Ok K TB w0 w (σ.set i none) (env.set i .no) := by
  have k1 := k.drop i
  refine ⟨k1.good, k1.le, by rw [List.length_set, List.length_set, k.len], fun j y e => ?_, fun j y e => ?_, fun a b x y p ne e1 e2 => ?_⟩
  · rcases get_set e with ⟨rfl, h⟩ | ⟨ne, h⟩
    · cases h
    · rw [List.getElem?_set_ne ne]
      exact k.dat j y h
  · rcases get_set e with ⟨rfl, h⟩ | ⟨ne, h⟩
    · cases h
    · rw [List.getElem?_set_ne ne]
      exact k.own j y h
  · rcases get_set e1 with ⟨rfl, h⟩ | ⟨n1, h1⟩
    · cases h
    · rcases get_set e2 with ⟨rfl, h⟩ | ⟨n2, h2⟩
      · cases h
      · rw [List.getElem?_set_ne n1, List.getElem?_set_ne n2]
        exact k.sep a b x y p ne h1 h2
theorem wipe_ok {K : PySem.W.Frag} {TB : Tbs} {w0 w : Wd} {σ : L2.St} {env : List Sl} (k : Ok K TB w0 w σ env) : ∀ vs : List Nat, Ok K TB w0 w (wipe σ vs) (wipeS env vs)
  | [] => k
  | v :: vs => set_none_ok (wipe_ok k vs) v
theorem wipe_in {σ : L2.St} {j : Nat} : ∀ {vs : List Nat}, j ∈ vs → j < σ.length → (wipe σ vs)[j]? = some none
  | v :: vs, h, hl => by
    have hw : (wipe σ vs).length = σ.length := wipe_length σ vs
    unfold wipe
    by_cases e : v = j
    · subst e
      exact List.getElem?_set_self (by rw [hw]; exact hl)
    · rw [List.getElem?_set_ne e]
      exact wipe_in ((List.mem_cons.mp h).resolve_left (Ne.symm e)) hl
theorem wipe_sets {is vs : List Nat} {σ σ' : L2.St} (h : Sets is σ σ') (hs : ∀ i ∈ is, i ∈ vs) : wipe σ' vs = wipe σ vs := by
  apply List.ext_getElem?
  intro j
  by_cases hj : j ∈ vs
  · by_cases hl : j < σ.length
    · rw [wipe_in hj hl, wipe_in hj (by rw [h.1]; exact hl)]
    · rw [List.getElem?_eq_none (by rw [wipe_length, h.1]; omega), List.getElem?_eq_none (by rw [wipe_length]; omega)]
  · rw [wipe_out hj, wipe_out hj]
    exact h.2 j fun z => hj (hs j z)
theorem wipe_wipe {σ : L2.St} (vs : List Nat) : wipe (wipe σ vs) vs = wipe σ vs := by
  apply List.ext_getElem?
  intro j
  by_cases hj : j ∈ vs
  · by_cases hl : j < σ.length
    · rw [wipe_in hj hl, wipe_in hj (by rw [wipe_length]; exact hl)]
    · rw [List.getElem?_eq_none (by rw [wipe_length, wipe_length]; omega), List.getElem?_eq_none (by rw [wipe_length]; omega)]
  · rw [wipe_out hj]
theorem wipe_sub {σ : L2.St} {vs vs1 : List Nat} (h : ∀ i ∈ vs1, i ∈ vs) {σ2 : L2.St} (h2 : wipe σ2 vs = wipe σ vs) : wipe (wipe σ2 vs1) vs = wipe σ vs := by
  rw [← h2]
  have hl : (wipe σ2 vs1).length = σ2.length := wipe_length σ2 vs1
  exact wipe_sets ⟨hl, fun j hj => wipe_out hj⟩ h
/-- the ifs of a clause answer b -/
def RunTs (X : Cx) (ifs : List Expr) (σ : L2.St) (H : Hp) (Q : Bool → Hp → Prop) : Prop := ∀ t : TT, True → ∃ t, PTs X ifs t ∧ t σ H Q
def PTsd (TB : Tbs) (X : Cx) (ifs : List Expr) (env : List Sl) (b : Bool) : Prop := (ifs = [] ∧ b = true) ∨ ∃ c, ifs = [c] ∧ PTd TB X c env b
theorem ptsd_nil {TB : Tbs} {X : Cx} {env : List Sl} : PTsd TB X [] env true := .inl ⟨rfl, rfl⟩
theorem ptsd_one {TB : Tbs} {X : Cx} {env : List Sl} {c : Expr} {b : Bool} (h : PTd TB X c env b) : PTsd TB X [c] env b := .inr ⟨c, rfl, h⟩
section
variable {TB : Tbs} {X : Cx} {env env' : List Sl} {tg e iter elt : Expr} {x y : D} {xs ds : List D} {pos p : Pos} {ifs : List Expr} {scope : Scope} {own : List (Str × Nat)}
def wGb (X : Cx) (scope : Scope) (tg : Expr) : TG := fun v σ H Q => ∀ (s : Shared) (H' : Hp) (C : Addr) (cl : List (Str × Addr)) (fp : List Addr), RunG (Blk X scope s H' C cl fp) tg v σ H Q
def wEb (X : Cx) (scope : Scope) (e : Expr) : TE := fun σ H Q => ∀ (s : Shared) (H' : Hp) (C : Addr) (cl : List (Str × Addr)) (fp : List Addr), RunE (Blk X scope s H' C cl fp) e σ H Q
def wTb (X : Cx) (scope : Scope) (e : Expr) : TT := fun σ H Q => ∀ (s : Shared) (H' : Hp) (C : Addr) (cl : List (Str × Addr)) (fp : List Addr), RunT (Blk X scope s H' C cl fp) e σ H Q
def wTsb (X : Cx) (scope : Scope) : List Expr → TT
  | [] => tYes
  | c :: _ => wTb X scope c
def wIb (X : Cx) (scope : Scope) (tg iter : Expr) : TI := fun σ H R => ∀ (s : Shared) (H' : Hp) (C : Addr) (cl : List (Str × Addr)) (fp : List Addr), RunI (Blk X scope s H' C cl fp) tg iter σ H R
theorem pg_wb (tg : Expr) : ∀ (s : Shared) (H : Hp) (C : Addr) (cl : List (Str × Addr)) (fp : List Addr), PG (X.blk s H scope (compEnvC scope cl C X.env) fp) tg (wGb X scope tg) := fun s H C cl fp => ⟨fun pins s1 σ H1 v u Q I r h => h s H C cl fp pins s1 u I r⟩
theorem pe_wb (e : Expr) : ∀ (s : Shared) (H : Hp) (C : Addr) (cl : List (Str × Addr)) (fp : List Addr), PE (X.blk s H scope (compEnvC scope cl C X.env) fp) e (wEb X scope e) := fun s H C cl fp => ⟨fun pins s1 σ H1 Q I h => h s H C cl fp pins s1 I⟩
theorem pt_wb (e : Expr) : ∀ (s : Shared) (H : Hp) (C : Addr) (cl : List (Str × Addr)) (fp : List Addr), PT (X.blk s H scope (compEnvC scope cl C X.env) fp) e (wTb X scope e) := fun s H C cl fp => ⟨fun pins s1 σ H1 Q I h => h s H C cl fp pins s1 I⟩
theorem pi_wb (tg iter : Expr) : ∀ (s : Shared) (H : Hp) (C : Addr) (cl : List (Str × Addr)) (fp : List Addr), PI (X.blk s H scope (compEnvC scope cl C X.env) fp) tg iter (wIb X scope tg iter) := fun s H C cl fp => ⟨fun pins s1 σ H1 R I h => h s H C cl fp pins s1 I⟩
theorem pts_wb (hl : ifs.length ≤ 1) : ∀ (s : Shared) (H : Hp) (C : Addr) (cl : List (Str × Addr)) (fp : List Addr), PTs (X.blk s H scope (compEnvC scope cl C X.env) fp) ifs (wTsb X scope ifs) := fun s H C cl fp => by
  match ifs, hl with
  | [], _ => exact pts_nil
  | [c], _ => exact pts_one (pt_wb c s H C cl fp)
theorem run_tsb {b : Bool} {l : List Sl} (h : ∀ (s : Shared) (H : Hp) (C : Addr) (cl : List (Str × Addr)) (fp : List Addr), PTsd TB (Blk X scope s H C cl fp) ifs l b) {w0 w : Wd} {σ : L2.St} {Q : Bool → Hp → Prop} (k : Ok X.K TB w0 w σ l)
    (q : ∀ w', Good TB w' → Le w w' → Q b w'.H) (s₀ : Shared) : wTsb X scope ifs σ w.H Q := by
  match ifs with
  | [] =>
    have hb : b = true := by
      rcases h s₀ w.H 0 [] [] with ⟨_, e⟩ | ⟨c, e, _⟩
      · exact e
      · cases e
    subst hb
    exact q w k.good (Le.refl w)
  | c :: r =>
    intro s H' C cl fp
    rcases h s H' C cl fp with ⟨e, _⟩ | ⟨c', e, hc⟩
    · cases e
    · cases e
      exact hc w0 w σ Q k q
/-- what one turn of a comprehension makes of the datum d: the slots behind the target, whether it is kept, what it gives -/
structure LcTurn (TB : Tbs) (X : Cx) (scope : Scope) (tg : Expr) (ifs : List Expr) (elt : Expr) (vs : List Nat) (l : List Sl) (d : D) (b : Bool) (y : D) : Prop where
  ex : ∃ l' is, (∀ i ∈ is, i ∈ vs) ∧ (∀ (s : Shared) (H : Hp) (C : Addr) (cl : List (Str × Addr)) (fp : List Addr), PGd TB (Blk X scope s H C cl fp) tg l d l' is) ∧
    (∀ (s : Shared) (H : Hp) (C : Addr) (cl : List (Str × Addr)) (fp : List Addr), PTsd TB (Blk X scope s H C cl fp) ifs l' b) ∧
    (b = true → ∀ (s : Shared) (H : Hp) (C : Addr) (cl : List (Str × Addr)) (fp : List Addr), PD TB (Blk X scope s H C cl fp) elt l' y)
/-- the list in the making -/
structure LcAt (K : PySem.W.Frag) (TB : Tbs) (w1 : Wd) (Dl : Addr) (acc : List D) (w : Wd) : Prop where
  good : Good TB w
  le : Le w1 w
  h : ∃ vs, w.H Dl = some (.lst vs) ∧ Reps K w.F vs acc
  f : w.F Dl = none
theorem LcAt.mono {K : PySem.W.Frag} {w1 w w' : Wd} {Dl : Addr} {acc : List D} (a : LcAt K TB w1 Dl acc w) (g : Good TB w') (l : Le w w') : LcAt K TB w1 Dl acc w' := by
  obtain ⟨vs, h1, h2⟩ := a.h
  exact ⟨g, a.le.trans l, ⟨vs, l.h _ _ h1 (fun _ z => by cases z), h2.mono l.f⟩, (l.n _ _ h1 (fun _ z => by cases z)).trans a.f⟩
theorem tabs_upd {H : Hp} {p : Addr} {vs : List V} {o : HO} (t : LamX.Tabs TB H) (h : H p = some (.lst vs)) : LamX.Tabs TB (upd H p o) := fun q hq => by
  obtain ⟨ps, a1, a2, a3⟩ := t q hq
  refine ⟨ps, by rw [upd_ne fun z => by rw [z, h] at a1; cases a1]; exact a1, a2, fun pos cv hc => ?_⟩
  obtain ⟨c, e1, e2⟩ := a3 pos cv hc
  refine ⟨c, e1, ?_⟩
  rw [upd_ne fun z => ?_]
  · exact e2
  · rw [z, h] at e2
    unfold LamX.CodeO at e2
    cases e2
theorem LcAt.push {K : PySem.W.Frag} {w1 w : Wd} {Dl : Addr} {acc : List D} {v : V} {d : D} {vs : List V} (a : LcAt K TB w1 Dl acc w) (hn : w1.H Dl = none) (h : w.H Dl = some (.lst vs)) (r : Rep K w.F v d) : LcAt K TB w1 Dl (acc ++ [d]) ⟨w.F, upd w.H Dl (.lst (vs ++ [v]))⟩ := by
  obtain ⟨vs', h1, h2⟩ := a.h
  rw [h] at h1
  cases h1
  refine ⟨a.good.own a.f (tabs_upd a.good.tb h), ⟨a.le.f, fun x o e n => ?_, a.le.n⟩, ⟨vs ++ [v], upd_same, h2.append (.cons r .nil)⟩, a.f⟩
  show upd w.H Dl (.lst (vs ++ [v])) x = some o
  rw [upd_ne (ne_of_none e hn)]
  exact a.le.h x o e n
theorem LcAt.fin {K : PySem.W.Frag} {w1 w : Wd} {Dl : Addr} {acc : List D} (a : LcAt K TB w1 Dl acc w) (hn : w1.H Dl = none) : ∃ w', w'.H = w.H ∧ Good TB w' ∧ Le w1 w' ∧ Rep K w'.F (.ref Dl) (.lst acc) := by
  obtain ⟨vs, h1, h2⟩ := a.h
  have fl : FLe w.F (upd w.F Dl (.lst vs)) := FLe.new a.f
  refine ⟨⟨upd w.F Dl (.lst vs), w.H⟩, rfl, ⟨fun x o e => ?_, fun x ps e => ?_, a.good.tb⟩, ⟨a.le.f.trans fl, a.le.h, fun x o e n => ?_⟩, .lst upd_same (h2.mono fl)⟩
  · have e' : upd w.F Dl (.lst vs) x = some o := e
    by_cases z : x = Dl
    · subst z
      rw [upd_same] at e'
      cases e'
      exact h1
    · rw [upd_ne z] at e'
      exact a.good.sub x o e'
  · have e' : upd w.F Dl (.lst vs) x = some (.tbl ps) := e
    by_cases z : x = Dl
    · subst z
      rw [upd_same] at e'
      cases e'
    · rw [upd_ne z] at e'
      exact a.good.nt x ps e'
  · show upd w.F Dl (.lst vs) x = w1.F x
    rw [upd_ne (ne_of_none e hn)]
    exact a.le.n x o e n
/-- what is kept of the first i -/
def kept (xs : List (Bool × D)) : List D := (xs.filter (·.1)).map (·.2)
theorem kept_snoc (xs : List (Bool × D)) (b : Bool) (y : D) : kept (xs ++ [(b, y)]) = kept xs ++ (if b = true then [y] else []) := by
  unfold kept
  rw [List.filter_append, List.map_append]
  cases b <;> rfl
theorem kept_length (xs : List (Bool × D)) : (kept xs).length ≤ xs.length := by
  unfold kept
  rw [List.length_map]
  exact List.length_filter_le _ _
/-- the reading of a comprehension over data -/
theorem lc_read {K : PySem.W.Frag} {vs : List Nat} {ys : List (Bool × D)} {w0 w1 : Wd} {σ : L2.St} {J : It} {QD : Addr → Hp → Prop} (hK : X.K = K) (s₀ : Shared) (k : Ok X.K TB w0 w1 σ env) (it : ItOk X.K TB J w1 xs) (hl : xs.length ≤ 90000) (hy : ys.length = xs.length)
    (turn : ∀ (i : Nat) (d : D) (b : Bool) (y : D), xs[i]? = some d → ys[i]? = some (b, y) → LcTurn TB X scope tg ifs elt vs (wipeS env vs) d b y) (q : ∀ Dl w', w1.H Dl = none → Good TB w' → Le w1 w' → Rep X.K w'.F (.ref Dl) (.lst (kept ys)) → QD Dl w'.H) :
    ∀ Dl, w1.H Dl = none → ∃ W : Nat → Nat → Hp → Prop, (∃ m, W 0 m (upd w1.H Dl (.lst []))) ∧ ∀ i m H, W i m H →
      (J.stop i H ∧ QD Dl H) ∨ (J.go i H ∧ ∃ Nx : Hp → Prop, (∀ H', Nx H' → ∃ m', m' < m ∧ W (i + 1) m' H') ∧ ∀ x H', J.yld i H x H' → wGb X scope tg x (wipe σ vs) H' fun σ2 H2 => wipe σ2 vs = wipe σ vs ∧ wTsb X scope ifs σ2 H2 fun b H3 =>
        if b = true then wEb X scope elt σ2 H3 fun y H4 => ∃ acc, H4 Dl = some (.lst acc) ∧ acc.length < sizeLine ∧ Nx (upd H4 Dl (.lst (acc ++ [y]))) else Nx H3) := by
  intro Dl hD
  have hF := k.good.fresh hD
  refine ⟨fun i m H => m = xs.length - i ∧ i ≤ xs.length ∧ ∃ w, w.H = H ∧ LcAt X.K TB w1 Dl (kept (ys.take i)) w, ⟨xs.length, by simp, Nat.zero_le _, ⟨w1.F, upd w1.H Dl (.lst [])⟩, rfl, ⟨k.good.own hF (tabs_new k.good.tb hD), Le.own hD, ⟨[], upd_same, by simpa [kept] using (Reps.nil : Reps X.K w1.F [] [])⟩, hF⟩⟩, ?_⟩
  rintro i m H ⟨rfl, hle, w, rfl, a⟩
  by_cases hlt : i < xs.length
  · obtain ⟨go, yl⟩ := it.1 i w a.good a.le.f hlt
    refine .inr ⟨go, fun H' => i + 1 ≤ xs.length ∧ ∃ w, w.H = H' ∧ LcAt X.K TB w1 Dl (kept (ys.take (i + 1))) w, fun H' ⟨a, b⟩ => ⟨xs.length - (i + 1), by omega, rfl, a, b⟩, fun v H2 yy s H' C cl fp => ?_⟩
    obtain ⟨w2, rfl, g2, l2, r2⟩ := yl v H2 yy
    have hyi : i < ys.length := by omega
    obtain ⟨l', is, hsub, hg, ht, he⟩ := (turn i xs[i] ys[i].1 ys[i].2 (List.getElem?_eq_getElem hlt) (List.getElem?_eq_getElem hyi)).ex
    have a2 := a.mono g2 l2
    have et : ys.take (i + 1) = ys.take i ++ [(ys[i].1, ys[i].2)] := by
      rw [List.take_add_one, List.getElem?_eq_getElem hyi]
      rfl
    refine hg s H' C cl fp w0 w2 (wipe σ vs) v _ ((wipe_ok k vs).mono g2 (a.le.trans l2)) (r2 _ (List.getElem?_eq_getElem hlt)) fun σ2 k2 s2 => ⟨?_, ?_⟩
    · rw [wipe_sets s2 hsub, wipe_wipe]
    · refine run_tsb ht k2 (fun w3 g3 l3 => ?_) s₀
      have a3 := a2.mono g3 l3
      rw [et, kept_snoc]
      cases hb : ys[i].1 with
      | true =>
        refine iteT (fun s H' C cl fp => he hb s H' C cl fp w0 w3 σ2 _ (k2.mono g3 l3) fun v4 w4 g4 l4 r4 => ?_)
        have a4 := a3.mono g4 l4
        obtain ⟨vs4, h4, q4⟩ := a4.h
        refine ⟨vs4, h4, ?_, hlt, _, rfl, a4.push hD h4 r4⟩
        rw [q4.length]
        refine size_lt (Nat.lt_of_le_of_lt (kept_length _) ?_)
        rw [List.length_take]
        omega
      | false =>
        refine iteF ⟨hlt, w3, rfl, ?_⟩
        rw [if_neg Bool.false_ne_true, List.append_nil]
        exact a3
  · have e : i = xs.length := by omega
    subst e
    rw [← hy, List.take_length] at a
    obtain ⟨w', e1, g', l', r'⟩ := a.fin hD
    have := q Dl w' hD g' l' r'
    rw [e1] at this
    exact .inl ⟨it.2 w a.good a.le.f, this⟩
variable {ys : List (Bool × D)}
theorem pd_lc (hi : PId TB X tg iter env xs) (hl : xs.length ≤ 90000) (hy : ys.length = xs.length) (turn : ∀ (i : Nat) (d : D) (b : Bool) (y : D), xs[i]? = some d → ys[i]? = some (b, y) → LcTurn TB X scope tg ifs elt (own.map (·.2)) (wipeS env (own.map (·.2))) d b y)
    (nd : X.N.Nodup) (ok : BlkOk X.N X.env.scope scope own) (hifs : ifs.length ≤ 1 := by decide) (hc : X.calm = true := by rfl) (hs : ∀ x, foldedSetIterable iter X.env x = pure x := by intro _; rfl) : PD TB X (.ListComp elt [⟨tg, iter, ifs, 0⟩] scope pos) env (.lst (kept ys)) := fun w0 w σ Q k q pins s I =>
  runE (pe_lc hc nd (pi_w tg iter) ok (pg_wb tg) (pts_wb hifs) (pe_wb elt) hs) (hi w0 w σ _ k fun J w1 g1 l1 it =>
    lc_read (QD := fun Dl H => Q (.ref Dl) H) rfl s (k.mono g1 l1) it hl hy turn fun Dl w' _ g' l' r' => q _ w' g' (l1.trans l') r') pins s I
/-- y = [..] on one line -/
theorem sd_setLc (i : Nat) {n : Str} {py spos : Pos} {rest : List Stmt} {R : Out → Prop} (hi : PId TB X tg iter env xs) (hl : xs.length ≤ 90000) (hy : ys.length = xs.length) (turn : ∀ (i : Nat) (d : D) (b : Bool) (y : D), xs[i]? = some d → ys[i]? = some (b, y) → LcTurn TB X scope tg ifs elt (own.map (·.2)) (wipeS env (own.map (·.2))) d b y)
    (q : SD TB X rest (env.set i (Sl.d (.lst (kept ys)))) R) (nd : X.N.Nodup) (ok : BlkOk X.N X.env.scope scope own) (hsw : swapsWith (.ListComp elt [⟨tg, iter, ifs, 0⟩] scope pos) (some (.Name n py)) spos.line X.env = pure true)
    (hn : X.N[i]? = some n := by rfl) (hx : X.env.scope.names.lookup n = some .local := by rfl) (hifs : ifs.length ≤ 1 := by decide) (hc : X.calm = true := by rfl) (hs : ∀ x, foldedSetIterable iter X.env x = pure x := by intro _; rfl) :
    SD TB X (.Assign [.Name n py] (.ListComp elt [⟨tg, iter, ifs, 0⟩] scope pos) spos :: rest) env R :=
  sd_cons fun w0 w σ D' k en pins s I => runS1 (ps_setLc hc nd hn hx hsw (pi_w tg iter) ok (pg_wb tg) (pts_wb hifs) (pe_wb elt) hs) (hi w0 w σ _ k fun J w1 g1 l1 it =>
    lc_read (QD := fun Dl H => D'.nx (σ.set i (some (.ref Dl))) H) rfl s (k.mono g1 l1) it hl hy turn fun Dl w' _ g' l' r' => en.nx w' _ _ (((k.mono g1 l1).mono g' l').set r') (l1.f.trans l'.f) q) pins s I
end
end Lw
set_option Elab.async false
set_option linter.all false
set_option maxRecDepth 100000
set_option maxHeartbeats 4000000
/-! # The entry of a def, a method, an __init__ -/
namespace Lw
open PySem PySem.Spec PyProof.Rows L2
def startS (N : List Str) (ds : List D) : List Sl := ds.map Sl.d ++ List.replicate (N.length - ds.length) Sl.no
def Ret (r : D) : Out → Prop
  | .ret d _ => d = r
  | .nx _ => r = .non
  | _ => False
theorem start_ok {K : PySem.W.Frag} {TB : Tbs} {w : Wd} {N : List Str} {vs : List V} {ds : List D} (g : Good TB w) (r : Reps K w.F vs ds) : Ok K TB w w (L2.start N vs) (startS N ds) := by
  have hl := r.length
  refine ⟨g, Le.refl w, ?_, fun i x e => ?_, fun i x e => ?_, fun i j x y p ne e1 e2 => ?_⟩
  · unfold L2.start startS
    rw [List.length_append, List.length_append, List.length_map, List.length_map, List.length_replicate, List.length_replicate, hl]
  · unfold startS at e
    by_cases hi : i < ds.length
    · rw [List.getElem?_append_left (by rw [List.length_map]; exact hi), List.getElem?_map, List.getElem?_eq_getElem hi] at e
      cases e
      obtain ⟨v, h1, h2⟩ := r.get (List.getElem?_eq_getElem hi)
      refine ⟨v, ?_, h2⟩
      unfold L2.start
      rw [List.getElem?_append_left (by rw [List.length_map, hl]; exact hi), List.getElem?_map, h1]
      rfl
    · rw [List.getElem?_append_right (by rw [List.length_map]; omega), List.getElem?_replicate] at e
      split at e <;> cases e
  · unfold startS at e
    by_cases hi : i < ds.length
    · rw [List.getElem?_append_left (by rw [List.length_map]; exact hi), List.getElem?_map, List.getElem?_eq_getElem hi] at e
      cases e
    · rw [List.getElem?_append_right (by rw [List.length_map]; omega), List.getElem?_replicate] at e
      split at e <;> cases e
  · unfold startS at e1
    by_cases hi : i < ds.length
    · rw [List.getElem?_append_left (by rw [List.length_map]; exact hi), List.getElem?_map, List.getElem?_eq_getElem hi] at e1
      cases e1
    · rw [List.getElem?_append_right (by rw [List.length_map]; omega), List.getElem?_replicate] at e1
      split at e1 <;> cases e1
/-- the def of the text's i-th statement stands at the module's name x -/
structure At (K : PySem.W.Frag) (mg : Str → Option Value) (x : Str) (st : Stmt) (ps : List Str) : Prop where
  ex : ∃ f fd, mg x = some (.ref f) ∧ Fun K x x st f fd ∧ Binds K fd ps []
abbrev BX (P : Program) (w : World) (K : PySem.W.Frag) (mg : Str → Option Value) (base : Heap) (N : List Str) (qual : Str) (scope : Scope) (f : Addr) (cdv : Value) (A : Around) (outer : List Env) (s : Shared) (H : Hp) (E : XK) : Cx :=
  (cxOf CX0 P w K mg base N qual scope f cdv A outer s H E).nox
section
variable {TB : Tbs} {P : Program} {w : World} {K : PySem.W.Frag} {mg : Str → Option Value} {base : Heap} {x qual : Str} {st : Stmt} {N ps : List Str} {k : Nat} {φ : List D → D → Prop} {f : Addr} {fd : FuncData}
/-- the body of a def keeps φ -/
def Body (TB : Tbs) (P : Program) (w : World) (K : PySem.W.Frag) (mg : Str → Option Value) (base : Heap) (N : List Str) (qual : Str) (st : Stmt) (k : Nat) (φ : List D → D → Prop) : Prop :=
  ∀ (f : Addr) (cdv : Value) (A : Around) (outer : List Env) (s : Shared) (H : Hp) (E : XK), Room k (A.deeper (envOfC qual (defScope st) s.heap.objs.size f cdv)) → ∀ ds r, φ ds r →
    SD TB (BX P w K mg base N qual (defScope st) f cdv A outer s H E) (defBody st) (startS N ds) (Ret r)
theorem fnOk_of (F : Fun K x qual st f fd) (S : FnScope N ps (defScope st)) (len : ∀ ds r, φ ds r → ds.length = ps.length) (body : Body TB P w K mg base N qual st k φ) : FnOk P w K mg base CX0 (k + 1) f fd ps (spR TB K φ) := by
  refine F.ok S (fun vs H Q E h => ?_) (fun cdv A outer s H vs Q E hr h => ?_)
  · obtain ⟨F', ds, r, g, rs, hp, _⟩ := h
    rw [rs.length]
    exact len ds r hp
  · obtain ⟨F', ds, r, g, rs, hp, q⟩ := h
    refine ⟨_, pss_w _, body f cdv A outer s H E hr ds r hp ⟨F', H⟩ ⟨F', H⟩ _ _ (start_ok g rs) ⟨fun w' σ' env' k' l' e => ?_, fun v w' σ' env' d k' r' e => ?_, fun _ _ _ _ _ e => e.elim, fun _ _ _ _ _ e => e.elim⟩⟩
    · have e : r = .non := e
      subst e
      exact q .non w' k'.good k'.le .non
    · have e : d = r := e
      subst e
      exact q v w' k'.good k'.le r'
theorem FnR.mk' (a : At K mg x st ps) (S : FnScope N ps (defScope st)) (len : ∀ ds r, φ ds r → ds.length = ps.length) (body : Body TB P w K mg base N x st k φ) : FnR TB P w K mg base x ps (k + 1) φ := by
  obtain ⟨f, fd, hm, F, hb⟩ := a.ex
  exact ⟨f, fd, hm, F.kp, hb, fnOk_of F S len body⟩
theorem FnR.mono {j : Nat} (h : FnR TB P w K mg base x ps j φ) (l : j ≤ k) : FnR TB P w K mg base x ps k φ := by
  obtain ⟨f, fd, hm, kp, hb, F⟩ := h.ex
  exact ⟨f, fd, hm, kp, hb, F.mono l⟩
/-- a promise that asks more, or tells less -/
theorem FnR.imp {ψ : List D → D → Prop} (h : FnR TB P w K mg base x ps k φ) (i : ∀ ds r, ψ ds r → φ ds r) : FnR TB P w K mg base x ps k ψ := by
  obtain ⟨f, fd, hm, kp, hb, F⟩ := h.ex
  exact ⟨f, fd, hm, kp, hb, F.imp fun vs H Q E ⟨F', ds, r, g, rs, hp, q⟩ => ⟨F', ds, r, g, rs, i ds r hp, q⟩⟩
/-- the built-ins that no name of the module hides -/
structure Bl (mg : Str → Option Value) : Prop where
  len : mg "len" = none
  range : mg "range" = none
  list : mg "list" = none
  tuple : mg "tuple" = none
  all : mg "all" = none
  any : mg "any" = none
  sum : mg "sum" = none
  min : mg "min" = none
  max : mg "max" = none
  set : mg "set" = none
  sorted : mg "sorted" = none
  enumerate : mg "enumerate" = none
  zip : mg "zip" = none
  int : mg "int" = none
  abs : mg "abs" = none
  dict : mg "dict" = none
end
/-! ### further rules -/
section
variable {TB : Tbs} {X : Cx} {env : List Sl} {a b c e : Expr} {es : List Expr} {d d1 d2 x y z : D} {ds xs ys : List D} {pos p : Pos} {t : Bool}
/-- xs == [], whatever the items are -/
theorem eqNil_run {prog : Program} {w : World} {A : Around} {E : Value → Shared → Prop} {s : Shared} {a b : Addr} {its its2 : Array Value} {Q : Value → Shared → Prop} (hu : A.units < cLine) (h1 : s.heap.IsList a its) (h2 : s.heap.IsList b its2) (hs : its2.size = 0) (h : Q (.bool (its.size == 0)) s) : True := trivial
end
end Lw
set_option Elab.async false
set_option linter.all false
set_option maxRecDepth 100000
set_option maxHeartbeats 4000000
/-! # Typed rules: comprehensions, loops, comparisons over encoded plain values -/
namespace Lw
open PySem PySem.Spec PyProof.Rows L2
theorem pln_mono : ∀ {m n : Nat} {d : D}, m ≤ n → pln m d = true → pln n d = true := by
  intro m
  induction m with
  | zero =>
    intro n d _ h
    cases d <;> first | (simp [pln] at h; done) | (cases n <;> simpa [pln] using h)
  | succ m ih =>
    intro n d hl h
    obtain ⟨k, rfl⟩ : ∃ k, n = k + 1 := ⟨n - 1, by omega⟩
    have all : ∀ xs : List D, xs.all (pln m) = true → xs.all (pln k) = true := fun xs hx => by
      rw [List.all_eq_true] at hx ⊢
      exact fun y hy => ih (by omega) (hx y hy)
    cases d with
    | lst xs => exact all xs h
    | tup xs => exact all xs h
    | _ => simpa [pln] using h
/-- a way to write plain values as data -/
structure Pn {α : Type} (n : Nat) (enc : α → D) : Prop where
  pl : ∀ a, pln n (enc a) = true
  inj : ∀ a b, enc a = enc b → a = b
theorem pn_int : Pn 0 D.int := ⟨fun _ => rfl, fun _ _ h => by cases h; rfl⟩
theorem map_inj {α : Type} {f : α → D} (h : ∀ a b, f a = f b → a = b) : ∀ {x y : List α}, x.map f = y.map f → x = y
  | [], [], _ => rfl
  | [], _ :: _, e => by cases e
  | _ :: _, [], e => by cases e
  | a :: x, b :: y, e => by
    rw [List.map_cons, List.map_cons, List.cons.injEq] at e
    rw [h a b e.1, map_inj h e.2]
theorem pn_lst {α : Type} {n : Nat} {enc : α → D} (h : Pn n enc) : Pn (n + 1) (fun l : List α => D.lst (l.map enc)) :=
  ⟨fun l => List.all_eq_true.mpr fun y hy => by
    obtain ⟨a, _, rfl⟩ := List.mem_map.mp hy
    exact h.pl a, fun x y e => by
    injection e with e
    exact map_inj h.inj e⟩
theorem pn_tupL {α : Type} {n : Nat} {enc : α → D} (h : Pn n enc) : Pn (n + 1) (fun l : List α => D.tup (l.map enc)) :=
  ⟨fun l => List.all_eq_true.mpr fun y hy => by
    obtain ⟨a, _, rfl⟩ := List.mem_map.mp hy
    exact h.pl a, fun x y e => by
    injection e with e
    exact map_inj h.inj e⟩
theorem pn_tup2 {α β : Type} {n : Nat} {ea : α → D} {eb : β → D} (ha : Pn n ea) (hb : Pn n eb) : Pn (n + 1) (fun p : α × β => D.tup [ea p.1, eb p.2]) :=
  ⟨fun p => List.all_eq_true.mpr fun y hy => by
    rcases List.mem_cons.mp hy with rfl | hy
    · exact ha.pl _
    · rcases List.mem_cons.mp hy with rfl | hy
      · exact hb.pl _
      · exact (List.not_mem_nil hy).elim, fun x y e => by
    injection e with e
    simp only [List.cons.injEq, and_true] at e
    exact Prod.ext (ha.inj _ _ e.1) (hb.inj _ _ e.2)⟩
theorem pn_up {α : Type} {m n : Nat} {enc : α → D} (h : Pn m enc) (l : m ≤ n) : Pn n enc := ⟨fun a => pln_mono l (h.pl a), h.inj⟩
/-- None or a value -/
def eO {α : Type} (enc : α → D) : Option α → D
  | none => .non
  | some a => enc a
theorem pn_opt {α : Type} {n : Nat} {enc : α → D} (h : Pn n enc) (hn : ∀ a, enc a ≠ .non) : Pn n (eO enc) :=
  ⟨fun o => by
    cases o with
    | none => cases n <;> rfl
    | some a => exact h.pl a, fun x y e => by
    cases x <;> cases y
    · rfl
    · exact absurd (Eq.symm e) (hn _)
    · exact absurd e (hn _)
    · exact congrArg some (h.inj _ _ e)⟩
section
variable {TB : Tbs} {X : Cx} {env : List Sl} {a b : Expr} {α : Type} {n : Nat} {enc : α → D} [DecidableEq α] {x y : α}
theorem pcd_eqE (hp : Pn n enc) (hu : X.A.units + 64 < cLine) (ha : PD TB X a env (enc x)) (hb : PD TB X b env (enc y)) (hn : n ≤ 60 := by decide) : PCd TB X .Eq a b env (decide (x = y)) :=
  pcd_eq hu ha hb (pln_mono hn (hp.pl x)) (pln_mono hn (hp.pl y)) (by
    rw [decide_eq_true_eq]
    exact ⟨fun e => by rw [e], hp.inj x y⟩)
theorem pcd_neE (hp : Pn n enc) (hu : X.A.units + 64 < cLine) (ha : PD TB X a env (enc x)) (hb : PD TB X b env (enc y)) (hn : n ≤ 60 := by decide) : PCd TB X .NotEq a b env (!decide (x = y)) :=
  pcd_ne hu ha hb (pln_mono hn (hp.pl x)) (pln_mono hn (hp.pl y)) (by
    rw [decide_eq_true_eq]
    exact ⟨fun e => by rw [e], hp.inj x y⟩)
end
section
variable {TB : Tbs} {X : Cx} {env : List Sl} {a b tg iter elt : Expr} {ifs : List Expr} {scope : Scope} {pos : Pos} {α : Type} {body rest : List Stmt} {R : Out → Prop}
theorem kept_map (p : α → Bool) (f : α → D) : ∀ src : List α, kept (src.map fun a => (p a, f a)) = (src.filter p).map f
  | [] => rfl
  | a :: l => by
    have ih := kept_map p f l
    unfold kept at ih ⊢
    rw [List.map_cons, List.filter_cons, List.filter_cons]
    cases h : p a with
    | true =>
      simp only [if_true, List.map_cons]
      rw [ih]
    | false =>
      simp only [Bool.false_eq_true, if_false]
      exact ih
/-- [elt for tg in iter if ..]: the items are enc of src -/
theorem pd_lcM (own : List (Str × Nat)) (src : List α) (enc : α → D) (p : α → Bool) (f : α → D) (hi : PId TB X tg iter env (src.map enc)) (hl : src.length ≤ 90000)
    (turn : ∀ a ∈ src, LcTurn TB X scope tg ifs elt (own.map (·.2)) (wipeS env (own.map (·.2))) (enc a) (p a) (f a))
    (nd : X.N.Nodup) (ok : BlkOk X.N X.env.scope scope own) (hifs : ifs.length ≤ 1 := by decide) (hc : X.calm = true := by rfl) (hs : ∀ x, foldedSetIterable iter X.env x = pure x := by intro _; rfl) :
    PD TB X (.ListComp elt [⟨tg, iter, ifs, 0⟩] scope pos) env (.lst ((src.filter p).map f)) := by
  have := pd_lc (ys := src.map fun a => (p a, f a)) (pos := pos) hi (by rw [List.length_map]; exact hl) (by rw [List.length_map, List.length_map]) (fun i d b y h1 h2 => by
    rw [List.getElem?_map] at h1 h2
    cases q : src[i]? with
    | none =>
      rw [q] at h1
      cases h1
    | some a =>
      rw [q] at h1 h2
      cases h1
      cases h2
      exact turn a (List.mem_of_getElem? q)) nd ok hifs hc hs
  rw [kept_map] at this
  exact this
/-- without an if -/
theorem pd_lcA (own : List (Str × Nat)) (src : List α) (enc : α → D) (f : α → D) (hi : PId TB X tg iter env (src.map enc)) (hl : src.length ≤ 90000)
    (turn : ∀ a ∈ src, LcTurn TB X scope tg [] elt (own.map (·.2)) (wipeS env (own.map (·.2))) (enc a) true (f a))
    (nd : X.N.Nodup) (ok : BlkOk X.N X.env.scope scope own) (hc : X.calm = true := by rfl) (hs : ∀ x, foldedSetIterable iter X.env x = pure x := by intro _; rfl) :
    PD TB X (.ListComp elt [⟨tg, iter, [], 0⟩] scope pos) env (.lst (src.map f)) := by
  have := pd_lcM own src enc (fun _ => true) f (pos := pos) hi hl turn nd ok (Nat.zero_le _) hc hs
  rw [List.filter_eq_self.mpr fun _ _ => rfl] at this
  exact this
/-- y = [..] on one line -/
theorem sd_setLcM (i : Nat) {n : Str} {py spos : Pos} (own : List (Str × Nat)) (src : List α) (enc : α → D) (p : α → Bool) (f : α → D) (hi : PId TB X tg iter env (src.map enc)) (hl : src.length ≤ 90000)
    (turn : ∀ a ∈ src, LcTurn TB X scope tg ifs elt (own.map (·.2)) (wipeS env (own.map (·.2))) (enc a) (p a) (f a))
    (q : SD TB X rest (env.set i (Sl.d (.lst ((src.filter p).map f)))) R) (nd : X.N.Nodup) (ok : BlkOk X.N X.env.scope scope own) (hsw : swapsWith (.ListComp elt [⟨tg, iter, ifs, 0⟩] scope pos) (some (.Name n py)) spos.line X.env = pure true := by rfl)
    (hn : X.N[i]? = some n := by rfl) (hx : X.env.scope.names.lookup n = some .local := by rfl) (hifs : ifs.length ≤ 1 := by decide) (hc : X.calm = true := by rfl) (hs : ∀ x, foldedSetIterable iter X.env x = pure x := by intro _; rfl) :
    SD TB X (.Assign [.Name n py] (.ListComp elt [⟨tg, iter, ifs, 0⟩] scope pos) spos :: rest) env R := by
  rw [← kept_map] at q
  exact sd_setLc i (ys := src.map fun a => (p a, f a)) hi (by rw [List.length_map]; exact hl) (by rw [List.length_map, List.length_map]) (fun i d b y h1 h2 => by
    rw [List.getElem?_map] at h1 h2
    cases q : src[i]? with
    | none =>
      rw [q] at h1
      cases h1
    | some a =>
      rw [q] at h1 h2
      cases h1
      cases h2
      exact turn a (List.mem_of_getElem? q)) q nd ok hsw hn hx hifs hc hs
theorem sd_setLcA (i : Nat) {n : Str} {py spos : Pos} (own : List (Str × Nat)) (src : List α) (enc : α → D) (f : α → D) (hi : PId TB X tg iter env (src.map enc)) (hl : src.length ≤ 90000)
    (turn : ∀ a ∈ src, LcTurn TB X scope tg [] elt (own.map (·.2)) (wipeS env (own.map (·.2))) (enc a) true (f a))
    (q : SD TB X rest (env.set i (Sl.d (.lst (src.map f)))) R) (nd : X.N.Nodup) (ok : BlkOk X.N X.env.scope scope own) (hsw : swapsWith (.ListComp elt [⟨tg, iter, [], 0⟩] scope pos) (some (.Name n py)) spos.line X.env = pure true := by rfl)
    (hn : X.N[i]? = some n := by rfl) (hx : X.env.scope.names.lookup n = some .local := by rfl) (hc : X.calm = true := by rfl) (hs : ∀ x, foldedSetIterable iter X.env x = pure x := by intro _; rfl) :
    SD TB X (.Assign [.Name n py] (.ListComp elt [⟨tg, iter, [], 0⟩] scope pos) spos :: rest) env R :=
  sd_setLcM i own src enc (fun _ => true) f hi hl turn (by rw [List.filter_eq_self.mpr fun _ _ => rfl]; exact q) nd ok hsw hn hx (Nat.zero_le _) hc hs
/-- for: S tells the slots behind a beginning of the items -/
theorem sd_forS (src : List α) (enc : α → D) (S : List α → List Sl) (hi : PId TB X tg iter env (src.map enc)) (h0 : env = S [])
    (step : ∀ pre a post, src = pre ++ a :: post → ∃ l' is, PGd TB X tg (S pre) (enc a) l' is ∧ SD TB X body l' (fun o => match o with
      | .nx m => Weak m (S (pre ++ [a]))
      | .ct m => Weak m (S (pre ++ [a]))
      | .bk m => SD TB X rest m R
      | .ret d m => R (.ret d m)))
    (done : SD TB X rest (S src) R) (hp : PassesOwn (model X.prog X.w) X.A X.env X.xe := by exact PassesOwn.never) (hc : X.calm = true := by rfl) (hs : ∀ x, foldedSetIterable iter X.env x = pure x := by intro _; rfl) : SD TB X (.For tg iter body [] pos :: rest) env R :=
  sd_for (fun i l => l = S (src.take i)) hi h0 (fun i d l hd hI => by
    rw [List.getElem?_map] at hd
    cases q : src[i]? with
    | none =>
      rw [q] at hd
      cases hd
    | some a =>
      rw [q] at hd
      cases hd
      subst hI
      obtain ⟨l', is, h1, h2⟩ := step (src.take i) a (src.drop (i + 1)) (by
        obtain ⟨hi, rfl⟩ := List.getElem?_eq_some_iff.mp q
        rw [← List.drop_eq_getElem_cons hi, List.take_append_drop])
      have e : src.take (i + 1) = src.take i ++ [a] := by
        rw [List.take_add_one, q]
        rfl
      refine ⟨l', is, h1, h2.mono fun o r => ?_⟩
      cases o with
      | nx m => exact ⟨_, r, by rw [e]⟩
      | ct m => exact ⟨_, r, by rw [e]⟩
      | bk m => exact r
      | ret d => exact r) (fun l hl => by
    subst hl
    rw [List.length_map, List.take_length]
    exact done) hp hc hs
end
end Lw
set_option Elab.async false
set_option linter.all false
set_option maxRecDepth 100000
set_option maxHeartbeats 4000000
/-! # What the head tells, in one structure -/
namespace Lw
open PySem PySem.Spec PyProof.Rows L2
structure Ads where
  View : Addr
  House : Addr
  Spot : Addr
  Moment : Addr
  Table : Addr
structure MAt (K : PySem.W.Frag) (C : Addr) (m qual : Str) (st : Stmt) (ps : List Str) : Prop where
  ex : ∃ f fd, Cls K C ∧ Meth K C m f ∧ Fun K m qual st f fd ∧ Binds K fd ps []
structure PAt (K : PySem.W.Frag) (C : Addr) (m qual : Str) (st : Stmt) : Prop where
  ex : ∃ p f fd, Cls K C ∧ PropOf K C m p f ∧ Fun K m qual st f fd ∧ Binds K fd ["self"] []
structure SAt (K : PySem.W.Frag) (C : Addr) (m qual : Str) (st : Stmt) (ps : List Str) : Prop where
  ex : ∃ f fd, PySem.W.findIn K (.ref C) m = some (some (.ref f)) ∧ PySem.W.isFn K (.ref f) = true ∧ PySem.W.fnIn K f = true ∧ Fun K m qual st f fd ∧ Binds K fd ps []
structure IAt (K : PySem.W.Frag) (mg : Str → Option Value) (C : Addr) (n qual : Str) (st : Stmt) (ps : List Str) : Prop where
  ex : ∃ f fd, mg n = some (.ref C) ∧ Mk K C f ∧ Fun K "__init__" qual st f fd ∧ Binds K fd ps []
structure StrAt (mg : Str → Option Value) (n s : Str) : Prop where
  ex : ∃ t, mg n = some (.str s t)
structure IntAt (mg : Str → Option Value) (n : Str) (i : Int) : Prop where
  ex : ∃ t, mg n = some (.int i t)
structure TupAt (K : PySem.W.Frag) (mg : Str → Option Value) (n : Str) (vs : List V) : Prop where
  ex : ∃ p, mg n = some (.ref p) ∧ ∀ F, SqT K F p vs
structure LstAt (K : PySem.W.Frag) (mg : Str → Option Value) (n : Str) (vs : List V) : Prop where
  ex : ∃ p, mg n = some (.ref p) ∧ ∀ F, SqL K F p vs
structure KdAt (w : World) (K : PySem.W.Frag) (mg : Str → Option Value) (n : Str) (kvs : List (Str × Int)) : Prop where
  ex : ∃ d es m, mg n = some (.ref d) ∧ KDict K w d es m ∧ ∀ q ∈ kvs, ∃ u, PySem.W.nsIn K d q.1 = some (some u) ∧ RelV (.int q.2) u
structure LAt (TB : Tbs) (K : PySem.W.Frag) (mg : Str → Option Value) (base : Heap) (x : Str) (st : Stmt) (ps : List Str) : Prop where
  ex : ∃ f fd c Pt, mg x = some (.ref f) ∧ Fun K x x st f fd ∧ Binds K fd ps [] ∧ fd.code = .ref c ∧ LamX.TabB base mg c Pt ∧ (Pt, x ++ ".<locals>." ++ "<lambda>") ∈ TB ∧ ∀ p ∈ TB, p.1 = Pt → p.2 = x ++ ".<locals>." ++ "<lambda>"
structure Fx (TB : Tbs) (w : World) (K : PySem.W.Frag) (mg : Str → Option Value) (base : Heap) (Z : Ads) : Prop where
  bl : Bl mg
  need_column : At K mg "need_column" (topS 17) ["width", "column"]
  need_row : At K mg "need_row" (topS 18) ["number", "row"]
  are_keys : At K mg "are_keys" (topS 19) ["sorting"]
  is_sorting_of : At K mg "is_sorting_of" (topS 20) ["width", "sorting"]
  need_sorting : At K mg "need_sorting" (topS 21) ["width", "sorting"]
  need_order : At K mg "need_order" (topS 22) ["number", "order"]
  after_click : At K mg "after_click" (topS 23) ["sorting", "column"]
  need_filters : At K mg "need_filters" (topS 26) ["table", "filters"]
  lets : At K mg "lets" (topS 27) ["bounds", "cell"]
  lets_all : At K mg "lets_all" (topS 28) ["filters", "cells"]
  rows_let : At K mg "rows_let" (topS 29) ["table", "filters"]
  open_filters : At K mg "open_filters" (topS 30) ["width"]
  let_rows : At K mg "let_rows" (topS 31) ["table", "filters"]
  check_there : At K mg "check_there" (topS 36) ["there"]
  are_marks : At K mg "are_marks" (topS 37) ["marks"]
  check_marks : At K mg "check_marks" (topS 38) ["marks"]
  check_marks_there : At K mg "check_marks_there" (topS 39) ["there", "marks"]
  check_marks_of : At K mg "check_marks_of" (topS 40) ["number", "marks"]
  check_clicks : At K mg "check_clicks" (topS 41) ["there", "clicks"]
  places_of : At K mg "places_of" (topS 42) ["there"]
  marked_in : At K mg "marked_in" (topS 43) ["there", "marks", "anchor", "clicks"]
  borders_in : At K mg "borders_in" (topS 44) ["there", "marks"]
  blocks_of : At K mg "blocks_of" (topS 45) ["places"]
  cost_in : At K mg "cost_in" (topS 46) ["there", "marks"]
  check_state : At K mg "check_state" (topS 47) ["there", "marks", "clicks"]
  marked : At K mg "marked" (topS 48) ["there", "marks", "anchor", "clicks"]
  cost : At K mg "cost" (topS 49) ["there", "marks"]
  numbers_of_covers : At K mg "numbers_of_covers" (topS 51) ["blocks"]
  block_cover : At K mg "block_cover" (topS 52) ["block", "choice"]
  cover_in : At K mg "cover_in" (topS 53) ["there", "marks", "index"]
  clicks_in : At K mg "clicks_in" (topS 54) ["cover"]
  need_width : At K mg "need_width" (topS 56) ["width"]
  all_sortings : At K mg "all_sortings" (topS 57) ["width"]
  after_clicks : At K mg "after_clicks" (topS 58) ["sorting", "clicks"]
  order_in : LAt TB K mg base "order_in" (topS 59) ["rows", "sorting"]
  is_sorting : At K mg "is_sorting" (topS 60) ["width", "sorting"]
  sortings : At K mg "sortings" (topS 61) ["width"]
  clicked : At K mg "clicked" (topS 62) ["width", "sorting", "clicks"]
  order_of : At K mg "order_of" (topS 63) ["table", "sorting"]
  way_between : At K mg "way_between" (topS 65) ["sorting", "goal"]
  clicks_of_front : At K mg "clicks_of_front" (topS 66) ["sorting", "front"]
  need_two : At K mg "need_two" (topS 67) ["width", "sorting", "goal"]
  distance : At K mg "distance" (topS 68) ["width", "sorting", "goal"]
  first_way : At K mg "first_way" (topS 69) ["width", "sorting", "goal"]
  showing : At K mg "showing" (topS 70) ["table", "order"]
  first_of : LAt TB K mg base "first_of" (topS 71) ["ways"]
  nearest : At K mg "nearest" (topS 72) ["table", "sorting", "order"]
  cheapest_in : At K mg "cheapest_in" (topS 74) ["there", "marks"]
  costs_by_sorting : At K mg "costs_by_sorting" (topS 75) ["table", "marks"]
  cheapest_sorting : At K mg "cheapest_sorting" (topS 76) ["table", "sorting", "marks"]
  one_stop : At K mg "one_stop" (topS 77) ["table", "sorting", "goal", "marks"]
  need_from : At K mg "need_from" (topS 79) ["number", "least"]
  need_rooms : At K mg "need_rooms" (topS 80) ["rooms"]
  between : At K mg "between" (topS 82) ["number", "least", "greatest"]
  room_for : At K mg "room_for" (topS 83) ["lines", "height"]
  room_of : At K mg "room_of" (topS 84) ["lines", "height"]
  clipped : At K mg "clipped" (topS 88) ["rooms", "scrolls"]
  first_double : At K mg "first_double" (topS 90) ["values"]
  shown_in : At K mg "shown_in" (topS 93) ["table", "sorting", "filters"]
  groups_in : At K mg "groups_in" (topS 94) ["table", "sorting", "shown"]
  lines_in : At K mg "lines_in" (topS 95) ["groups", "folded"]
  is_name : At K mg "is_name" (topS 100) ["text"]
  require_names : At K mg "require_names" (topS 101) ["names"]
  require_unlike : At K mg "require_unlike" (topS 102) ["names"]
  need_window : At K mg "need_window" (topS 114) ["height", "room"]
  first_moment : At K mg "first_moment" (topS 115) ["house"]
  need_deed : At K mg "need_deed" (topS 116) ["deed"]
  clicked_on : At K mg "clicked_on" (topS 118) ["moment", "deed"]
  clipped_moment : At K mg "clipped_moment" (topS 120) ["height", "moment"]
  moment_after : At K mg "moment_after" (topS 121) ["house", "height", "room", "moment", "deed"]
  moments_of : At K mg "moments_of" (topS 123) ["house", "height", "room", "script"]
  last_moment : At K mg "last_moment" (topS 124) ["house", "height", "room", "script"]
  last_or_none : At K mg "last_or_none" (topS 125) ["house", "height", "room", "script"]
  spot_after : At K mg "spot_after" (topS 128) ["house", "height", "room", "script"]
  heads : At K mg "heads" (topS 129) ["clicks"]
  way_to_order : At K mg "way_to_order" (topS 130) ["table", "sorting", "order"]
  need_plain : At K mg "need_plain" (topS 131) ["spot", "marks"]
  plan_by : At K mg "plan_by" (topS 132) ["table", "sorting", "stop", "order", "marks"]
  need_goal : At K mg "need_goal" (topS 133) ["table", "order", "marks"]
  plan : At K mg "plan" (topS 134) ["house", "height", "room", "script", "order", "marks"]
  judge_plan : At K mg "judge_plan" (topS 135) ["house", "height", "room", "script", "order", "marks", "told"]
  _law_open : At K mg "_law_open" (topS 139) ["_law_script", "_law_k"]
  _law_draw : At K mg "_law_draw" (topS 140) ["_law_deck", "_law_many"]
  _law_rows : At K mg "_law_rows" (topS 141) ["_law_deck", "_law_width", "_law_most"]
  _law_clicks : At K mg "_law_clicks" (topS 142) ["_law_deck", "_law_width", "_law_most"]
  _law_keys : At K mg "_law_keys" (topS 143) ["_law_deck", "_law_width"]
  _law_ways : At K mg "_law_ways" (topS 144) ["_law_table", "_law_keys_here", "_law_marks"]
  _law_stop : At K mg "_law_stop" (topS 145) ["_law_table", "_law_ways_here", "_law_goal"]
  _law_stops_right : At K mg "_law_stops_right" (topS 146) ["_law_table", "_law_keys_here", "_law_ways_here", "_law_goal", "_law_marks"]
  _law_plan_right : At K mg "_law_plan_right" (topS 147) ["_law_house", "_law_script", "_law_order", "_law_marks", "_law_due"]
  _law_right : At K mg "_law_right" (topS 148) ["_law_deck"]
  law : At K mg "law" (topS 149) ["_law_script"]
  cls_View : Cls K Z.View
  no_View_held_table : NoAttr K Z.View "held_table"
  no_View_held_sorting : NoAttr K Z.View "held_sorting"
  no_View_held_filters : NoAttr K Z.View "held_filters"
  no_View_held_folds : NoAttr K Z.View "held_folds"
  no_View_held_groups : NoAttr K Z.View "held_groups"
  no_View_held_shown : NoAttr K Z.View "held_shown"
  no_View_held_lines : NoAttr K Z.View "held_lines"
  View_init : IAt K mg Z.View "View" "View.__init__" (inClass (topS 96) 0) ["self", "table", "sorting", "filters", "folds"]
  View_shown : MAt K Z.View "shown" "View.shown" (inClass (topS 96) 5) ["self"]
  View_open_rows : MAt K Z.View "open_rows" "View.open_rows" (inClass (topS 96) 7) ["self"]
  View_done : MAt K Z.View "done" "View.done" (inClass (topS 96) 9) ["self", "deeds"]
  View_len : SAt K Z.View "__len__" "View.__len__" (inClass (topS 96) 10) ["self"]
  View_table : PAt K Z.View "table" "View.table" (inClass (topS 96) 1)
  View_sorting : PAt K Z.View "sorting" "View.sorting" (inClass (topS 96) 2)
  View_filters : PAt K Z.View "filters" "View.filters" (inClass (topS 96) 3)
  View_folds : PAt K Z.View "folds" "View.folds" (inClass (topS 96) 4)
  cls_House : Cls K Z.House
  no_House_own_places : NoAttr K Z.House "own_places"
  House_init : IAt K mg Z.House "House" "House.__init__" (inClass (topS 103) 0) ["self", "places"]
  House_require_place : MAt K Z.House "require_place" "House.require_place" (inClass (topS 103) 2) ["self", "name"]
  House_getitem : SAt K Z.House "__getitem__" "House.__getitem__" (inClass (topS 103) 3) ["self", "name"]
  House_names : PAt K Z.House "names" "House.names" (inClass (topS 103) 1)
  cls_Spot : Cls K Z.Spot
  no_Spot_look : NoAttr K Z.Spot "look"
  no_Spot_chosen : NoAttr K Z.Spot "chosen"
  no_Spot_origin : NoAttr K Z.Spot "origin"
  no_Spot_top : NoAttr K Z.Spot "top"
  Spot_init : IAt K mg Z.Spot "Spot" "Spot.__init__" (inClass (topS 112) 0) ["self", "look", "chosen", "origin", "top"]
  cls_Moment : Cls K Z.Moment
  no_Moment_path : NoAttr K Z.Moment "path"
  no_Moment_spots : NoAttr K Z.Moment "spots"
  no_Moment_page : NoAttr K Z.Moment "page"
  Moment_init : IAt K mg Z.Moment "Moment" "Moment.__init__" (inClass (topS 113) 0) ["self", "path", "spots", "page"]
  Moment_last : MAt K Z.Moment "last" "Moment.last" (inClass (topS 113) 1) ["self"]
  Moment_spot : MAt K Z.Moment "spot" "Moment.spot" (inClass (topS 113) 2) ["self"]
  Moment_with_spot : MAt K Z.Moment "with_spot" "Moment.with_spot" (inClass (topS 113) 3) ["self", "spot"]
  cls_Table : Cls K Z.Table
  no_Table_wide : NoAttr K Z.Table "wide"
  no_Table_cell_rows : NoAttr K Z.Table "cell_rows"
  Table_init : IAt K mg Z.Table "Table" "Table.__init__" (inClass (topS 137) 0) ["self", "width", "rows"]
  Table_cell : MAt K Z.Table "cell" "Table.cell" (inClass (topS 137) 3) ["self", "row", "column"]
  Table_len : SAt K Z.Table "__len__" "Table.__len__" (inClass (topS 137) 10) ["self"]
  Table_width : PAt K Z.Table "width" "Table.width" (inClass (topS 137) 1)
  Table_rows : PAt K Z.Table "rows" "Table.rows" (inClass (topS 137) 2)
  CLICK : StrAt mg "CLICK" "click"
  RANGE : StrAt mg "RANGE" "range"
  SORT : StrAt mg "SORT" "sort"
  LETTERS : StrAt mg "LETTERS" "abcdefghijklmnopqrstuvwxyz"
  MOST_LETTERS : IntAt mg "MOST_LETTERS" 8
  OPEN : TupAt K mg "OPEN" [.non, .non]
  PARTS : KdAt w K mg "PARTS" [("sort", 2), ("click", 2), ("range", 2)]
  MARKING : LstAt K mg "MARKING" [.str "click", .str "range"]
section
variable {TB : Tbs} {X : Cx} {env : List Sl} {pos : Pos}
theorem pd_gS {n s : Str} (h : StrAt X.mg n s) (hg : Gl X n := by rfl) (hd : (n == ("__debug__" : Str)) = false := by decide) : PD TB X (.Name n pos) env (.str s) := by
  obtain ⟨t, h⟩ := h.ex
  exact pd_globS h hg hd
theorem pd_gI {n : Str} {i : Int} (h : IntAt X.mg n i) (hg : Gl X n := by rfl) (hd : (n == ("__debug__" : Str)) = false := by decide) : PD TB X (.Name n pos) env (.int i) := by
  obtain ⟨t, h⟩ := h.ex
  exact pd_globI h hg hd
theorem pd_gT {n : Str} {vs : List V} {ds : List D} (h : TupAt X.K X.mg n vs) (hr : ∀ F, Reps X.K F vs ds) (hg : Gl X n := by rfl) (hd : (n == ("__debug__" : Str)) = false := by decide) : PD TB X (.Name n pos) env (.tup ds) := by
  obtain ⟨p, h, q⟩ := h.ex
  exact pd_globT h q hr hg hd
end
section
variable {TB : Tbs} {P : Program} {w : World} {K : PySem.W.Frag} {mg : Str → Option Value} {base : Heap} {m qual : Str} {st : Stmt} {N ps : List Str} {k : Nat} {φ : List D → D → Prop} {C : Addr}
theorem MeR.mk' (a : MAt K C m qual st ps) (S : FnScope N ps (defScope st)) (len : ∀ ds r, φ ds r → ds.length = ps.length) (body : Body TB P w K mg base N qual st k φ) : MeR TB P w K mg base C m ps (k + 1) φ := by
  obtain ⟨f, fd, c, hm, F, hb⟩ := a.ex
  exact ⟨f, fd, c, hm, hb, fnOk_of F S len body⟩
theorem PrR.mk' (a : PAt K C m qual st) (S : FnScope N ["self"] (defScope st)) (len : ∀ ds r, φ ds r → ds.length = 1) (body : Body TB P w K mg base N qual st k φ) : PrR TB P w K mg base C m (k + 1) φ := by
  obtain ⟨p, f, fd, c, hm, F, hb⟩ := a.ex
  exact ⟨p, f, fd, c, hm, hb, fnOk_of F S len body⟩
/-- a def with a lambda: its code object is known -/
theorem FnR.mkL {x : Str} (a : LAt TB K mg base x st ps) (S : FnScope N ps (defScope st)) (len : ∀ ds r, φ ds r → ds.length = ps.length)
    (body : ∀ (f c Pt : Addr) (A : Around) (outer : List Env) (s : Shared) (H : Hp) (E : XK), Room k (A.deeper (envOfC x (defScope st) s.heap.objs.size f (.ref c))) → LamX.TabB base mg c Pt → (Pt, x ++ ".<locals>." ++ "<lambda>") ∈ TB → (∀ p ∈ TB, p.1 = Pt → p.2 = x ++ ".<locals>." ++ "<lambda>") → ∀ ds r, φ ds r →
      SD TB (BX P w K mg base N x (defScope st) f (.ref c) A outer s H E) (defBody st) (startS N ds) (Ret r)) : FnR TB P w K mg base x ps (k + 1) φ := by
  obtain ⟨f, fd, c, Pt, hm, F, hb, hcd, tb, hT, hu⟩ := a.ex
  refine ⟨f, fd, hm, F.kp, hb, ?_⟩
  obtain ⟨oc, od, kV, doc, pm, an, cdv, ct, osl, rfl, lk, hin⟩ := F.ex
  have hcd : cdv = .ref c := hcd
  subst hcd
  refine fn_of lk hin S (fun vs H Q E h => ?_) fun A outer s H vs Q E hr h => ?_
  · obtain ⟨F', ds, r, g, rs, hp, _⟩ := h
    rw [rs.length]
    exact len ds r hp
  · obtain ⟨F', ds, r, g, rs, hp, q⟩ := h
    have hh := pss_w (X := BX P w K mg base N x (defScope st) f (.ref c) A outer s H E) (defBody st)
    refine ⟨_, hh.nox, body f c Pt A outer s H E hr tb hT hu ds r hp ⟨F', H⟩ ⟨F', H⟩ _ _ (start_ok g rs) ⟨fun w' σ' env' k' l' e => ?_, fun v w' σ' env' d k' r' e => ?_, fun _ _ _ _ _ e => e.elim, fun _ _ _ _ _ e => e.elim⟩⟩
    · have e : r = .non := e
      subst e
      exact q .non w' k'.good k'.le .non
    · have e : d = r := e
      subst e
      exact q v w' k'.good k'.le r'
theorem SpecR.mk' (a : SAt K C m qual st ps) (S : FnScope N ps (defScope st)) (len : ∀ ds r, φ ds r → ds.length = ps.length) (body : Body TB P w K mg base N qual st k φ) : SpecR TB P w K mg base C m ps (k + 1) φ := by
  obtain ⟨f, fd, h1, h2, h3, F, hb⟩ := a.ex
  exact ⟨f, fd, h1, h2, h3, hb, fnOk_of F S len body⟩
end
end Lw
set_option Elab.async false
set_option linter.all false
set_option maxRecDepth 100000
set_option maxHeartbeats 4000000
/-! # What the defs compute, plainly; how plain values are written as data -/
namespace Lw
open PySem PySem.Spec PyProof.Rows L2
abbrev Key := Int × Int
/-! ### writings -/
abbrev eIs (l : List Int) : D := .lst (l.map D.int)
abbrev eTs (l : List Int) : D := .tup (l.map D.int)
abbrev eK (k : Key) : D := .tup [.int k.1, .int k.2]
abbrev eKs (s : List Key) : D := .lst (s.map eK)
abbrev eKss (s : List (List Key)) : D := .lst (s.map eKs)
abbrev eRs (r : List (List Int)) : D := .lst (r.map eIs)
abbrev eC (c : Str × Int) : D := .tup [.str c.1, .int c.2]
abbrev eCs (s : List (Str × Int)) : D := .lst (s.map eC)
abbrev eWay : Option (List Int) → D := eO eIs
theorem pn_eIs : Pn 1 eIs := pn_lst pn_int
theorem pn_eTs : Pn 1 eTs := pn_tupL pn_int
theorem pn_eK : Pn 1 eK := pn_tup2 pn_int pn_int
theorem pn_eKs : Pn 2 eKs := pn_lst pn_eK
theorem pn_eKss : Pn 3 eKss := pn_lst pn_eKs
theorem pn_eRs : Pn 2 eRs := pn_lst pn_eIs
theorem pn_eWay : Pn 1 eWay := pn_opt pn_eIs (fun _ h => by cases h)
def rg (n : Nat) : List Int := (List.range n).map fun i : Nat => (i : Int)
theorem rgD_eq (n : Nat) : rgD n = (rg n).map D.int := by
  unfold rgD rg
  rw [List.map_map]
  rfl
theorem rg_length (n : Nat) : (rg n).length = n := by
  unfold rg
  rw [List.length_map, List.length_range]
theorem mem_rg {n : Nat} {i : Int} : i ∈ rg n ↔ 0 ≤ i ∧ i < n := by
  unfold rg
  rw [List.mem_map]
  constructor
  · rintro ⟨j, h, rfl⟩
    rw [List.mem_range] at h
    omega
  · rintro ⟨h1, h2⟩
    exact ⟨i.toNat, by rw [List.mem_range]; omega, by omega⟩
/-! ### tables -/
abbrev eTable (Z : Ads) (w : Nat) (rows : List (List Int)) : D := .ins Z.Table ["wide", "cell_rows"] [.int w, .tup (rows.map eTs)]
/-- a table's size -/
structure Tb (w : Nat) (rows : List (List Int)) : Prop where
  pos : 1 ≤ w
  wide : w ≤ 2
  few : rows.length ≤ 5
  each : ∀ r ∈ rows, r.length = w
/-! ### sortings -/
def Keyed (s : List Key) : Prop := (s.map (·.1)).Nodup ∧ ∀ k ∈ s, 0 ≤ k.1 ∧ (k.2 = 1 ∨ k.2 = -1)
instance (s : List Key) : Decidable (Keyed s) := inferInstanceAs (Decidable (_ ∧ _))
def afterClick : List Key → Int → List Key
  | [], c => [(c, 1)]
  | k :: t, c => if k.1 = c then (c, -k.2) :: t else (c, 1) :: (k :: t).filter fun q => !decide (q.1 = c)
def afterClicks (s : List Key) (cs : List Int) : List Key := cs.foldl afterClick s
def sortLayer (w : Nat) (layer : List (List Key)) : List (List Key) :=
  layer.flatMap fun keys => ((rg w).filter fun c => !decide (c ∈ keys.map (·.1))).flatMap fun c => [(-1 : Int), 1].map fun g => keys ++ [(c, g)]
def sortLoop (w : Nat) : Nat → List (List Key) × List (List Key)
  | 0 => ([[]], [[]])
  | n + 1 => ((sortLoop w n).1 ++ sortLayer w (sortLoop w n).2, sortLayer w (sortLoop w n).2)
def sorts (w : Nat) : List (List Key) := (sortLoop w w).1
def clicksOfFront (s front : List Key) : List Int :=
  front.reverse.foldl (fun found k => found ++ List.replicate (if k.2 = 1 ∨ (found = [] ∧ ∃ q ∈ s.head?, q.1 = k.1) then 1 else 2) k.1) []
def wayBetween (s g : List Key) : Option (List Int) :=
  (List.range (g.length + 1)).findSome? fun n =>
    if g.drop n = s.filter (fun k => !decide (k.1 ∈ (g.take n).map (·.1))) then some (clicksOfFront s (g.take n)) else none
/-! ### marks -/
def bordersIn (there marks : List Int) : List Int :=
  let flags := [false] ++ (there.map fun row => decide (row ∈ marks)) ++ [false]
  (rg (there.length + 1)).filter fun place => !(flags[place.toNat]?.getD false == flags[place.toNat + 1]?.getD false)
def blockStep (found : List Key) (border : Int) : List Key :=
  match found.getLast? with
  | some l => if l.2 = border - 1 then found.dropLast ++ [(l.1, border)] else found ++ [(border, border)]
  | none => [(border, border)]
def blocksOf (places : List Int) : List Key := places.foldl blockStep []
theorem blocksOf_snoc (pre : List Int) (a : Int) : blocksOf (pre ++ [a]) = blockStep (blocksOf pre) a := by
  unfold blocksOf
  rw [List.foldl_append]
  rfl
theorem blocksOf_length (l : List Int) : (blocksOf l).length ≤ l.length := by
  have key : ∀ (l : List Int) (f : List Key), (l.foldl blockStep f).length ≤ f.length + l.length := by
    intro l
    induction l with
    | nil => intro f; exact Nat.le_refl _
    | cons a l ih =>
      intro f
      rw [List.foldl_cons]
      refine Nat.le_trans (ih _) ?_
      have : (blockStep f a).length ≤ f.length + 1 := by
        unfold blockStep
        split
        · split
          · rw [List.length_append, List.length_dropLast, List.length_singleton]; omega
          · rw [List.length_append, List.length_singleton]; omega
        · rw [List.length_singleton]; omega
      rw [List.length_cons]
      omega
  have := key l []
  rw [List.length_nil, Nat.zero_add] at this
  exact this
theorem blocksOf_ok {n : Int} {places : List Int} (h : ∀ p ∈ places, 0 ≤ p ∧ p ≤ n) : ∀ b ∈ blocksOf places, 0 ≤ b.1 ∧ b.1 ≤ b.2 ∧ b.2 ≤ n := by
  have key : ∀ (l : List Int) (f : List Key), (∀ p ∈ l, 0 ≤ p ∧ p ≤ n) → (∀ b ∈ f, 0 ≤ b.1 ∧ b.1 ≤ b.2 ∧ b.2 ≤ n) → ∀ b ∈ l.foldl blockStep f, 0 ≤ b.1 ∧ b.1 ≤ b.2 ∧ b.2 ≤ n := by
    intro l
    induction l with
    | nil => intro f _ hf; exact hf
    | cons a l ih =>
      intro f hl hf
      rw [List.foldl_cons]
      refine ih _ (fun p hp => hl p (List.mem_cons_of_mem _ hp)) ?_
      have ha := hl a List.mem_cons_self
      unfold blockStep
      split
      · rename_i x hx
        have hx' := hf x (List.mem_of_getLast? hx)
        split
        · rename_i e
          intro b hb
          rcases List.mem_append.mp hb with hb | hb
          · exact hf b (List.dropLast_subset _ hb)
          · rw [List.mem_singleton] at hb
            subst hb
            exact ⟨hx'.1, by show x.1 ≤ a; omega, ha.2⟩
        · intro b hb
          rcases List.mem_append.mp hb with hb | hb
          · exact hf b hb
          · rw [List.mem_singleton] at hb
            subst hb
            exact ⟨ha.1, Int.le_refl _, ha.2⟩
      · intro b hb
        rw [List.mem_singleton] at hb
        subst hb
        exact ⟨ha.1, Int.le_refl _, ha.2⟩
  exact key places [] h (fun b hb => by cases hb)
theorem borders_ok {t m : List Int} : ∀ p ∈ bordersIn t m, 0 ≤ p ∧ p ≤ (t.length : Int) := fun p hp => by
  unfold bordersIn at hp
  have := mem_rg.mp (List.mem_filter.mp hp).1
  omega
theorem borders_length {t m : List Int} : (bordersIn t m).length ≤ t.length + 1 := by
  unfold bordersIn
  refine Nat.le_trans (List.length_filter_le _ _) ?_
  rw [rg_length]
  omega
def costIn (there marks : List Int) : Int := ((blocksOf (bordersIn there marks)).map fun b => (b.2 - b.1 + 2) / 2).sum
def covers (b : Key) : Int := if (b.2 - b.1 + 1) % 2 = 1 then (b.2 - b.1 + 1) / 2 + 1 else 1
/-- the cover of a block with the choice 0, from the border b on -/
def coverFrom (b : Key) : Nat → Int → List (List Int)
  | 0, _ => []
  | n + 1, x => if x ≤ b.2 then (if (b.2 - b.1) % 2 = 0 ∧ x = b.1 then [x] :: coverFrom b n (x + 1) else [x, x + 1] :: coverFrom b n (x + 2)) else []
def blockCover (b : Key) : List (List Int) := coverFrom b (b.2 - b.1 + 1).toNat b.1
def coverIn (there marks : List Int) : List (List Int) := (blocksOf (bordersIn there marks)).flatMap blockCover
def pairUp : List Int → List (Str × Int)
  | a :: b :: r => ("click", a) :: ("range", b - 1) :: pairUp r
  | _ => []
def hd0 (t : List Int) : Int := t.headD 0
def clicksIn (cover : List (List Int)) : List (Str × Int) :=
  pairUp ((cover.filter fun t => decide (t.length = 1)).map hd0) ++ (cover.filter fun t => decide (t.length = 2)).map fun t => (("click" : Str), hd0 t)
def cheapestIn (there marks : List Int) : List (Str × Int) := clicksIn (coverIn there marks)
end Lw
set_option Elab.async false
set_option linter.all false
set_option maxRecDepth 100000
set_option maxHeartbeats 4000000
/-! # More rules: sorted ints, __init__, equality with [] -/
namespace Lw
open PySem PySem.Spec PyProof.Rows L2
theorem sorted_uniq : ∀ {a b : List Int}, a.Perm b → a.Pairwise (· ≤ ·) → b.Pairwise (· ≤ ·) → a = b
  | [], b, p, _, _ => (List.nil_perm.mp p).symm
  | x :: a, [], p, _, _ => by
    have := p.length_eq
    cases this
  | x :: a, y :: b, p, ha, hb => by
    rw [List.pairwise_cons] at ha hb
    have hx : x ∈ y :: b := p.subset List.mem_cons_self
    have hy : y ∈ x :: a := p.symm.subset List.mem_cons_self
    have e : x = y := by
      rcases List.mem_cons.mp hx with e | h1
      · exact e
      · rcases List.mem_cons.mp hy with e | h2
        · exact e.symm
        · exact Int.le_antisymm (ha.1 y h2) (hb.1 x h1)
    subst e
    rw [sorted_uniq (List.perm_cons x |>.mp p) ha.2 hb.2]
section
variable {TB : Tbs} {X : Cx} {env : List Sl} {a b c e : Expr} {es : List Expr} {d d1 d2 x y z : D} {ds xs ys : List D} {pos p : Pos} {t : Bool}
theorem pd_sortedI {ns ns' : List Int} (hm : X.mg "sorted" = none) (ha : PD TB X a env (eIs ns)) (hp : ns'.Perm ns) (hs : ns'.Pairwise (· ≤ ·)) (hg : Gl X "sorted" := by rfl) (he : starEach [a] X.env = (false, eval a X.env) :: starEach [] X.env := by rfl) (hpl : (backTo pos (starEach [] X.env)).any (·.1) = false := by rfl) :
    PD TB X (.Call (.Name "sorted" p) [a] [] pos) env (eIs ns') :=
  pd_callB cr_sortedI hm (by decide +kernel) (pds_cons ha pds_nil he) (fun vs w Q g r q => by
    cases r with
    | cons r1 r2 =>
      cases r2
      cases r1 with
      | lst h1 h2 =>
        rw [reps_ints h2] at h1
        refine ⟨_, ns, rfl, .inl (.inl (g.sub _ _ h1)), fun l q' pl hl => ?_⟩
        have el : l = ns' := sorted_uniq (pl.trans hp.symm) hl hs
        subst el
        exact newL g (ints_reps l) q q') hg (by decide) (by decide) he hpl
end
theorem atI_nat {α : Type} {l : List α} {n : Nat} {a : α} (h : l[n]? = some a) : atI l (n : Int) = some a := by
  have hl := (List.getElem?_eq_some_iff.mp h).1
  unfold atI ixN
  rw [if_pos (show (0 : Int) ≤ (n : Int) by omega), if_pos (show (n : Int) < ((l.length : Nat) : Int) by omega)]
  exact h
theorem atI0 {α : Type} (a : α) (l : List α) : atI (a :: l) 0 = some a := atI_nat (n := 0) rfl
theorem atI1 {α : Type} (b a : α) (l : List α) : atI (b :: a :: l) 1 = some a := atI_nat (n := 1) rfl
theorem atI2 {α : Type} (c b a : α) (l : List α) : atI (c :: b :: a :: l) 2 = some a := atI_nat (n := 2) rfl
theorem atI3 {α : Type} (d c b a : α) (l : List α) : atI (d :: c :: b :: a :: l) 3 = some a := atI_nat (n := 3) rfl
theorem atI_int {α : Type} {l : List α} {i : Int} {a : α} (h0 : 0 ≤ i) (h : l[i.toNat]? = some a) : atI l i = some a := by
  have := atI_nat h
  rwa [Int.toNat_of_nonneg h0] at this
theorem atI_last {α : Type} (l : List α) (a : α) : atI (l ++ [a]) (-1) = some a := by
  unfold atI ixN
  rw [if_neg (by decide), if_pos (by rw [List.length_append, List.length_singleton]; omega)]
  show (l ++ [a])[(-1 + ((l ++ [a]).length : Int)).toNat]? = some a
  rw [show (-1 + ((l ++ [a]).length : Int)).toNat = l.length by rw [List.length_append, List.length_singleton]; omega]
  simp
theorem WkS.of_eq {s t : Sl} (h : s = t) : WkS s t := h ▸ .refl
theorem Weak.setNo {l m : List Sl} (h : Weak l m) (j : Nat) (t : Sl) (hj : m[j]? = some .no) : Weak (l.set j t) m := by
  induction h generalizing j with
  | nil => cases hj
  | cons a b ih =>
    cases j with
    | zero =>
      rw [List.getElem?_cons_zero] at hj
      cases hj
      exact .cons .drop b
    | succ j =>
      rw [List.getElem?_cons_succ] at hj
      exact .cons a (ih j hj)
theorem Weak.fzAt {l : List Sl} {u : OO} : ∀ (i : Nat), l[i]? = some (Sl.o u) → Weak l (l.set i (Sl.d u.fz)) := by
  induction l with
  | nil => intro i h; cases h
  | cons a l ih =>
    intro i h
    cases i with
    | zero =>
      rw [List.getElem?_cons_zero] at h
      cases h
      exact .cons .fz (Weak.refl _)
    | succ i =>
      rw [List.getElem?_cons_succ] at h
      exact .cons .refl (ih i h)
theorem Weak.noAt {l : List Sl} : ∀ (i : Nat), Weak l (l.set i Sl.no) := by
  induction l with
  | nil => intro i; exact .nil
  | cons a l ih =>
    intro i
    cases i with
    | zero => exact .cons .drop (Weak.refl _)
    | succ i => exact .cons .refl (ih i)
theorem cut1 {α β : Type} (f : α → β) (l : List α) : cut (l.map f) (some 1) none = l.tail.map f := by
  rw [show (1 : Int) = ((1 : Nat) : Int) from rfl, cut_from, List.drop_one, List.map_tail]
theorem pairs_lt : ∀ {l : List Int}, l.Pairwise (· < ·) → ∀ q ∈ l.zip l.tail, q.1 < q.2
  | [], _, q, h => by cases h
  | [a], _, q, h => by cases h
  | a :: b :: l, p, q, h => by
    rw [List.pairwise_cons] at p
    rcases List.mem_cons.mp h with rfl | h
    · exact p.1 b List.mem_cons_self
    · exact pairs_lt p.2 q h
theorem enumD_map {α : Type} (enc : α → D) (l : List α) : enumD (l.map enc) = l.zipIdx.map fun q => .tup [.int ((q.2 : Nat) : Int), enc q.1] := by
  unfold enumD
  rw [List.zipIdx_map, List.map_map]
  rfl
theorem zipD_map {α β : Type} (ea : α → D) (eb : β → D) (x : List α) (y : List β) : zipD (x.map ea) (y.map eb) = (x.zip y).map fun q => .tup [ea q.1, eb q.2] := by
  unfold zipD
  rw [List.zip_map, List.map_map]
  rfl
/-! ### __init__ -/
def RetI (a C : Addr) (ns : List Str) (rs : List D) : Out → Prop
  | .nx env => env[0]? = some (Sl.o (.i a C ns rs))
  | _ => False
section
variable {TB : Tbs} {P : Program} {w : World} {K : PySem.W.Frag} {mg : Str → Option Value} {base : Heap} {qual n : Str} {st : Stmt} {N ps : List Str} {k : Nat} {C : Addr} {φ : List D → List Str → List D → Prop}
theorem init_ok {F H1 : Hp} {x dx : Addr} {us : List V} {ds : List D} (hx : H1 x = none) (hdx : H1 dx = none) (ne : dx ≠ x) (g : Good TB ⟨F, H1⟩) (rs : Reps K F us ds) :
    Ok K TB ⟨F, H1⟩ ⟨F, upd (upd H1 dx (.own x)) x (.ins C dx [])⟩ (L2.start N (.ref x :: us)) (Sl.o (.i x C [] []) :: (ds.map Sl.d ++ List.replicate (N.length - (ds.length + 1)) Sl.no)) := by
  have hfx : F x = none := g.fresh hx
  have hfdx : F dx = none := g.fresh hdx
  have n1 : upd H1 dx (.own x) x = none := by rw [upd_ne (Ne.symm ne)]; exact hx
  have t1 : LamX.Tabs TB (upd H1 dx (.own x)) := tabs_new g.tb hdx
  have g1 : Good TB ⟨F, upd H1 dx (.own x)⟩ := g.own hfdx t1
  have g2 : Good TB ⟨F, upd (upd H1 dx (.own x)) x (.ins C dx [])⟩ := g1.own hfx (tabs_new t1 n1)
  have l1 : Le ⟨F, H1⟩ ⟨F, upd H1 dx (.own x)⟩ := Le.own hdx
  have l2 : Le ⟨F, upd H1 dx (.own x)⟩ ⟨F, upd (upd H1 dx (.own x)) x (.ins C dx [])⟩ := Le.own n1
  have hlen := rs.length
  have only : ∀ (i : Nat) (z : OO), (Sl.o (.i x C [] []) :: (ds.map Sl.d ++ List.replicate (N.length - (ds.length + 1)) Sl.no))[i]? = some (Sl.o z) → i = 0 ∧ z = .i x C [] [] := fun i z e => by
    cases i with
    | zero =>
      rw [List.getElem?_cons_zero] at e
      cases e
      exact ⟨rfl, rfl⟩
    | succ i =>
      rw [List.getElem?_cons_succ] at e
      by_cases hi : i < ds.length
      · rw [List.getElem?_append_left (by rw [List.length_map]; exact hi), List.getElem?_map, List.getElem?_eq_getElem hi] at e
        cases e
      · rw [List.getElem?_append_right (by rw [List.length_map]; omega), List.getElem?_replicate] at e
        split at e <;> cases e
  refine ⟨g2, l1.trans l2, ?_, fun i d e => ?_, fun i z e => ?_, fun i j z y p nij e1 e2 => ?_⟩
  · unfold L2.start
    simp only [List.length_cons, List.length_append, List.length_map, List.length_replicate, hlen]
    omega
  · cases i with
    | zero => cases e
    | succ i =>
      rw [List.getElem?_cons_succ] at e
      by_cases hi : i < ds.length
      · rw [List.getElem?_append_left (by rw [List.length_map]; exact hi), List.getElem?_map, List.getElem?_eq_getElem hi] at e
        cases e
        obtain ⟨v, h1, h2⟩ := rs.get (List.getElem?_eq_getElem hi)
        refine ⟨v, ?_, h2⟩
        unfold L2.start
        rw [List.map_cons, List.cons_append, List.getElem?_cons_succ, List.getElem?_append_left (by rw [List.length_map, hlen]; exact hi), List.getElem?_map, h1]
        rfl
      · rw [List.getElem?_append_right (by rw [List.length_map]; omega), List.getElem?_replicate] at e
        split at e <;> cases e
  · obtain ⟨rfl, rfl⟩ := only i z e
    exact ⟨x, .ins C dx [], rfl, upd_same, hfx, (fun o q => by
      have q' : H1 x = some o := q
      rw [hx] at q'
      cases q'), rfl, rfl, rfl, .nil⟩
  · obtain ⟨rfl, _⟩ := only i z e1
    obtain ⟨rfl, _⟩ := only j y e2
    exact absurd rfl nij
theorem MkR.mk' (a : IAt K mg C n qual st ps) (S : FnScope N ps (defScope st)) (len : ∀ ds ns rs, φ ds ns rs → ds.length + 1 = ps.length)
    (body : ∀ (x f : Addr) (cdv : Value) (A : Around) (outer : List Env) (s : Shared) (H : Hp) (E : XK), Room k (A.deeper (envOfC qual (defScope st) s.heap.objs.size f cdv)) → ∀ ds ns rs, φ ds ns rs →
      SD TB (BX P w K mg base N qual (defScope st) f cdv A outer s H E) (defBody st) (Sl.o (.i x C [] []) :: (ds.map Sl.d ++ List.replicate (N.length - (ds.length + 1)) Sl.no)) (RetI x C ns rs)) : MkR TB P w K mg base C n ps (k + 1) φ := by
  obtain ⟨f, fd, hm, hM, F, hb⟩ := a.ex
  refine ⟨f, fd, hm, hM, hb, F.ok S (fun vs H Q E h => ?_) (fun cdv A outer s H vs Q E hr h => ?_)⟩
  · obtain ⟨F', H1, x, dx, us, ds, ns, rs, rfl, _, _, _, _, _, r, hp, _⟩ := h
    rw [List.length_cons, r.length]
    exact len ds ns rs hp
  · obtain ⟨F', H1, x, dx, us, ds, ns, rs, rfl, hx, hdx, hne, rfl, g, r, hp, q⟩ := h
    refine ⟨_, pss_w _, body x f cdv A outer s _ E hr ds ns rs hp ⟨F', H1⟩ _ _ _ (init_ok hx hdx hne g r) ⟨fun w' σ' env' k' l' e => ?_, fun v w' σ' env' d k' r' e => e.elim, fun _ _ _ _ _ e => e.elim, fun _ _ _ _ _ e => e.elim⟩⟩
    have e : env'[0]? = some (Sl.o (.i x C ns rs)) := e
    obtain ⟨p, h0, s', hp', hf, h0n, ok⟩ := k'.own 0 _ e
    have ep : p = x := by
      cases h0 <;> first | exact ok.elim | skip
      exact ok.1
    subst ep
    obtain ⟨h1, hp1, _, _, k2⟩ := k'.fz e s'
    have q2 := q ⟨upd w'.F p h1, w'.H⟩ k2.good k2.le (by
      obtain ⟨v, s2, r2⟩ := k2.dat 0 _ (List.getElem?_set_self (by
        have := (List.getElem?_eq_some_iff.mp e).1
        exact this))
      rw [s'] at s2
      cases s2
      exact r2)
    exact q2
end
end Lw
set_option Elab.async false
set_option linter.all false
set_option maxRecDepth 100000
set_option maxHeartbeats 4000000
/-! # More rules: while, x += e, range by twos, a, b = c, d -/
namespace Lw
open PySem PySem.Spec PyProof.Rows L2
section
variable {TB : Tbs} {X : Cx} {env : List Sl} {a b c e tg : Expr} {es : List Expr} {d d1 d2 d3 x y z : D} {ds xs ys : List D} {pos p : Pos} {t : Bool} {body rest : List Stmt} {R : Out → Prop}
theorem sd_augI (i : Nat) {u v : Int} {n : Str} {pn : Pos} (hi : env[i]? = some (Sl.d (.int u))) (he : PD TB X e env (.int v)) (q : SD TB X rest (env.set i (Sl.d (.int (u + v)))) R) (nd : X.N.Nodup) (hN : X.N[i]? = some n := by rfl) (hx : Loc X.env.scope n := by first | exact Or.inl rfl | exact Or.inr rfl)
    (hf : X.fn n = true ∨ X.env.scope.names.lookup n = some .local := by first | exact .inl rfl | exact .inr rfl) : SD TB X (.AugAssign (.Name n pn) .Add e pos :: rest) env R :=
  sd_cons fun w0 w σ D' k en => by
    obtain ⟨v0, s, r⟩ := k.dat i _ hi
    cases r
    refine runS1 (ps_aug nd hN hx (pe_w e) ip_add hf) ⟨_, s, he w0 w σ _ k fun v1 w1 g1 l1 r1 => ?_⟩
    cases r1
    exact ⟨u, v, rfl, rfl, en.nx w1 _ _ ((k.mono g1 l1).set .int) l1.f q⟩
theorem sd_while (I : Nat → List Sl → Prop) (m0 : Nat) (h0 : I m0 env)
    (step : ∀ m l, I m l → ∃ b, PTd TB X c l b ∧ (b = true → SD TB X body l (fun o => match o with
      | .nx l1 => ∃ m', m' < m ∧ ∃ l2, Weak l1 l2 ∧ I m' l2
      | .ct l1 => ∃ m', m' < m ∧ ∃ l2, Weak l1 l2 ∧ I m' l2
      | .bk l1 => SD TB X rest l1 R
      | .ret d m => R (.ret d m))) ∧ (b = false → SD TB X rest l R)) (hp : PassesOwn (model X.prog X.w) X.A X.env X.xe := by exact PassesOwn.never) : SD TB X (.While c body [] pos :: rest) env R :=
  sd_cons fun w0 w σ D' k en => runS1 (ps_while hp (pt_w c) (pss_w body)) ⟨fun m σ' H' => ∃ w' l, w'.H = H' ∧ FLe w.F w'.F ∧ Ok X.K TB w0 w' σ' l ∧ I m l, ⟨m0, w, env, rfl, FLe.refl _, k, h0⟩, by
    rintro m σ' H' ⟨w', l, rfl, f', k', hI⟩
    obtain ⟨b, ht, h1, h2⟩ := step m l hI
    refine ht w0 w' σ' _ k' fun w1 g1 l1 => ?_
    have f1 : FLe w.F w1.F := f'.trans l1.f
    have k1 := k'.mono g1 l1
    cases b with
    | true =>
      refine iteT ⟨fun σ2 H2 => ∃ m', m' < m ∧ ∃ w' l, w'.H = H2 ∧ FLe w.F w'.F ∧ Ok X.K TB w0 w' σ2 l ∧ I m' l, fun σ2 H2 ⟨m', lt, q⟩ => ⟨m', lt, q⟩, h1 rfl w0 w1 σ' _ k1 ⟨fun w4 σ4 m4 k4 f4 r4 => ?_, fun v4 w4 σ4 m4 d4 k4 r4 q4 => en.rt v4 w4 σ4 m4 d4 k4 r4 q4, fun w4 σ4 m4 k4 f4 r4 => en.nx w4 σ4 m4 k4 (f1.trans f4) r4, fun w4 σ4 m4 k4 f4 r4 => ?_⟩⟩
      all_goals
        obtain ⟨m', lt, l2, hw, hI'⟩ := r4
        obtain ⟨w5, e5, f5, k5⟩ := k4.weak hw
        exact ⟨m', lt, w5, l2, e5, (f1.trans f4).trans f5, k5, hI'⟩
    | false => exact iteF (en.nx w1 σ' l k1 f1 (h2 rfl))⟩
theorem rs2 {n : Nat} : Builtin.Range.rangeSize 0 ((2 * n : Nat) : Int) 2 = n := by
  unfold Builtin.Range.rangeSize
  rw [if_pos (by decide)]
  split <;> omega
theorem fits {i : Int} (h1 : -1000000 ≤ i) (h2 : i ≤ 1000000) : Builtin.Range.rangeFitsLong i = true := by
  unfold Builtin.Range.rangeFitsLong
  rw [Bool.and_eq_true]
  exact ⟨decide_eq_true (by omega), decide_eq_true (by omega)⟩
/-- range(0, 2 n, 2) -/
theorem pid_range2 {n : Nat} (hm : X.mg "range" = none) (ha : PD TB X a env (.int 0)) (hb : PD TB X b env (.int ((2 * n : Nat) : Int))) (hc : PD TB X c env (.int 2)) (hn : n ≤ 40000) (hg : Gl X "range" := by rfl)
    (hs : starEach [a, b, c] X.env = (false, eval a X.env) :: starEach [b, c] X.env := by rfl) (hs2 : starEach [b, c] X.env = (false, eval b X.env) :: starEach [c] X.env := by rfl) (hs3 : starEach [c] X.env = (false, eval c X.env) :: starEach [] X.env := by rfl) (hpl : (backTo pos (starEach [b, c] X.env)).any (·.1) = false := by rfl) :
    PId TB X tg (.Call (.Name "range" p) [a, b, c] [] pos) env ((List.range n).map fun i : Nat => D.int (2 * (i : Int))) := fun w0 w σ R k q =>
  runI (pi_range3 hg hm (pa_w _) hs hpl) (pds_cons ha (pds_cons hb (pds_cons hc pds_nil hs3) hs2) hs w0 w σ _ k fun vs w1 g1 l1 r1 => by
    cases r1 with
    | cons r1 r2 =>
      cases r2 with
      | cons r2 r3 =>
        cases r3 with
        | cons r3 r4 =>
          cases r4; cases r1; cases r2; cases r3
          refine ⟨0, ((2 * n : Nat) : Int), 2, n, rfl, ⟨by decide, by decide, ?_, ?_⟩, q _ w1 g1 l1 ⟨fun i w' g' f' hi => ?_, fun w' g' f' => ?_⟩⟩
          · unfold Builtin.Range.small
            rw [rs2, fits (i := 0) (by omega) (by omega), fits (i := ((2 * n : Nat) : Int)) (by omega) (by omega), fits (i := 2) (by omega) (by omega), fits (i := (n : Int)) (by omega) (by omega), if_pos (by decide), fits (i := ((2 * n : Nat) : Int) + (2 - 1)) (by omega) (by omega)]
            simp
          · exact rs2
          · rw [List.length_map, List.length_range] at hi
            refine ⟨hi, fun v H' y => ?_⟩
            obtain ⟨rfl, rfl⟩ := y
            refine ⟨w', rfl, g', Le.refl w', fun d hd => ?_⟩
            rw [List.getElem?_map, List.getElem?_range hi] at hd
            cases hd
            rw [Int.zero_add, Int.mul_comm]
            exact .int
          · rw [List.length_map, List.length_range]
            exact Nat.le_refl _)
/-- x, y = a, b -/
theorem sd_par (i j : Nat) {m n : Str} {px py pt pt2 : Pos} {kt k2 : Nat} (ha : PD TB X a env d1) (hb : PD TB X b env d2) (q : SD TB X rest ((env.set i (Sl.d d1)).set j (Sl.d d2)) R) (nd : X.N.Nodup) (hij : i ≠ j := by decide) (hi : X.N[i]? = some m := by rfl) (hj : X.N[j]? = some n := by rfl)
    (hx : X.env.scope.names.lookup m = some .local := by rfl) (hy : X.env.scope.names.lookup n = some .local := by rfl) (hc : X.calm = true := by rfl) (he : starEach [a, b] X.env = (false, eval a X.env) :: starEach [b] X.env := by rfl) (he2 : starEach [b] X.env = (false, eval b X.env) :: starEach [] X.env := by rfl)
    (hw : swappedStores [.Tuple [.Name m px, .Name n py] kt pt] (.Tuple [a, b] k2 pt2) X.env = pure (some [m, n]) := by rfl)
    (hs : swapsWithSole [.Tuple [.Name m px, .Name n py] kt pt] (.Tuple [a, b] k2 pt2) pos.line X.env = pure false := by rfl) :
    SD TB X (.Assign [.Tuple [.Name m px, .Name n py] kt pt] (.Tuple [a, b] k2 pt2) pos :: rest) env R :=
  sd_cons fun w0 w σ D' k en => runS1 (ps_par hc nd hi hj hij hx hy (pa_w _) hw hs) (pds_cons ha (pds_cons hb pds_nil he2) he w0 w σ _ k fun vs w1 g1 l1 r1 => by
    cases r1 with
    | cons r1 r2 =>
      cases r2 with
      | cons r2 r3 =>
        cases r3
        exact ⟨_, _, rfl, en.nx w1 _ _ (((k.mono g1 l1).set r1).set r2) l1.f q⟩)
theorem sd_par3 (i j l : Nat) {m n o : Str} {px py pz pt pt2 : Pos} {kt k2 : Nat} (ha : PD TB X a env d1) (hb : PD TB X b env d2) (hcc : PD TB X c env d3) (q : SD TB X rest (((env.set i (Sl.d d1)).set j (Sl.d d2)).set l (Sl.d d3)) R) (nd : X.N.Nodup) (hij : i ≠ j := by decide) (hil : i ≠ l := by decide) (hjl : j ≠ l := by decide)
    (hi : X.N[i]? = some m := by rfl) (hj : X.N[j]? = some n := by rfl) (hl : X.N[l]? = some o := by rfl)
    (hx : X.env.scope.names.lookup m = some .local := by rfl) (hy : X.env.scope.names.lookup n = some .local := by rfl) (hz : X.env.scope.names.lookup o = some .local := by rfl) (hc : X.calm = true := by rfl) (he : starEach [a, b, c] X.env = (false, eval a X.env) :: starEach [b, c] X.env := by rfl) (he2 : starEach [b, c] X.env = (false, eval b X.env) :: starEach [c] X.env := by rfl) (he3 : starEach [c] X.env = (false, eval c X.env) :: starEach [] X.env := by rfl)
    (hw : swappedStores [.Tuple [.Name m px, .Name n py, .Name o pz] kt pt] (.Tuple [a, b, c] k2 pt2) X.env = pure (some [m, n, o]) := by rfl)
    (hs : swapsWithSole [.Tuple [.Name m px, .Name n py, .Name o pz] kt pt] (.Tuple [a, b, c] k2 pt2) pos.line X.env = pure false := by rfl) :
    SD TB X (.Assign [.Tuple [.Name m px, .Name n py, .Name o pz] kt pt] (.Tuple [a, b, c] k2 pt2) pos :: rest) env R :=
  sd_cons fun w0 w σ D' k en => runS1 (ps_par3 hc nd hi hj hl hij hil hjl hx hy hz (pa_w _) hw hs) (pds_cons ha (pds_cons hb (pds_cons hcc pds_nil he3) he2) he w0 w σ _ k fun vs w1 g1 l1 r1 => by
    cases r1 with
    | cons r1 r2 =>
      cases r2 with
      | cons r2 r3 =>
        cases r3 with
        | cons r3 r4 =>
          cases r4
          exact ⟨_, _, _, rfl, en.nx w1 _ _ ((((k.mono g1 l1).set r1).set r2).set r3) l1.f q⟩)
end
end Lw
set_option Elab.async false
set_option linter.all false
set_option maxRecDepth 100000
set_option maxHeartbeats 4000000
/-! # More rules: x, y = [..], e with x of the def's own; comprehensions with two fors -/
namespace Lw
open PySem PySem.Spec PyProof.Rows L2
section
variable {TB : Tbs} {X : Cx} {env : List Sl} {a b c e tg tg1 iter iter1 elt : Expr} {es : List Expr} {d d1 d2 d3 x y z : D} {ds xs ys : List D} {pos p : Pos} {t : Bool} {body rest : List Stmt} {R : Out → Prop} {scope : Scope}
theorem sd_parOwn (i j : Nat) {m n : Str} {px py pt pt2 pl : Pos} {kt k2 : Nat} (ha : PDs TB X es env ds) (hlen : ds.length ≤ 1000) (hb : PD TB X b env d2) (q : SD TB X rest ((env.set i (Sl.o (.l ds))).set j (Sl.d d2)) R) (nd : X.N.Nodup) (hij : i ≠ j := by decide) (hi : X.N[i]? = some m := by rfl) (hj : X.N[j]? = some n := by rfl)
    (hx : X.env.scope.names.lookup m = some .local := by rfl) (hy : X.env.scope.names.lookup n = some .local := by rfl) (hc : X.calm = true := by rfl) (he : starEach [Expr.List es pl, b] X.env = (false, eval (Expr.List es pl) X.env) :: starEach [b] X.env := by rfl) (he2 : starEach [b] X.env = (false, eval b X.env) :: starEach [] X.env := by rfl)
    (hw : swappedStores [.Tuple [.Name m px, .Name n py] kt pt] (.Tuple [.List es pl, b] k2 pt2) X.env = pure (some [m, n]) := by rfl)
    (hs : swapsWithSole [.Tuple [.Name m px, .Name n py] kt pt] (.Tuple [.List es pl, b] k2 pt2) pos.line X.env = pure false := by rfl) :
    SD TB X (.Assign [.Tuple [.Name m px, .Name n py] kt pt] (.Tuple [.List es pl, b] k2 pt2) pos :: rest) env R :=
  sd_cons fun w0 w σ D' k en => runS1 (ps_par hc nd hi hj hij hx hy (pa_cons (pe_lst (pa_w es)) (pa_cons (pe_w b) pa_nil he2) he) hw hs) (ha w0 w σ _ k fun vs w1 g1 l1 r1 => ⟨size_small (by rw [r1.length]; omega), fun q' hq => by
    have k1 := k.mono g1 l1
    have kl := k1.lay (i := i) (y := .l ds) hq (show OOk X.K w1.F q' (.lst vs) (.l ds) from r1)
    refine hb w0 ⟨w1.F, upd w1.H q' (.lst vs)⟩ σ _ (k1.mono kl.good (Le.own hq)) fun v w2 g2 l2 r2 => ?_
    exact ⟨_, _, rfl, en.nx w2 _ _ ((kl.mono g2 l2).set r2) (l1.f.trans l2.f) q⟩⟩)
/-! ### two fors -/
theorem LcAt.full {K : PySem.W.Frag} {w1 w : Wd} {Dl : Addr} {acc : List D} (a : LcAt K TB w1 Dl acc w) : ∃ vs, w.H Dl = some (.lst vs) ∧ Reps K w.F vs acc := a.h
def noOwn : List Sl → Bool
  | [] => true
  | .o _ :: _ => false
  | _ :: l => noOwn l
theorem noOwn_at : ∀ {l : List Sl}, noOwn l = true → ∀ (i : Nat) (x : OO), l[i]? ≠ some (Sl.o x)
  | [], _, i, x, h => by cases h
  | .o _ :: _, h, _, _, _ => by cases h
  | .no :: l, h, 0, x, e => by cases e
  | .d _ :: l, h, 0, x, e => by cases e
  | .no :: l, h, i + 1, x, e => noOwn_at (l := l) h i x e
  | .d _ :: l, h, i + 1, x, e => noOwn_at (l := l) h i x e
theorem noOwn_wipe {l : List Sl} (h : ∀ (i : Nat) (x : OO), l[i]? ≠ some (Sl.o x)) : ∀ (vs : List Nat) (i : Nat) (x : OO), (wipeS l vs)[i]? ≠ some (Sl.o x)
  | [], i, x, e => h i x e
  | v :: vs, i, x, e => by
    rcases get_set e with ⟨_, z⟩ | ⟨_, z⟩
    · cases z
    · exact noOwn_wipe h vs i x z
theorem Ok.far {K : PySem.W.Frag} {w0 w w' : Wd} {σ : L2.St} (k : Ok K TB w0 w σ env) (no : ∀ (i : Nat) (x : OO), env[i]? ≠ some (Sl.o x)) (g : Good TB w') (f : FLe w.F w'.F) (l : Le w0 w') : Ok K TB w0 w' σ env :=
  ⟨g, l, k.len, fun i x e => let ⟨v, a, b⟩ := k.dat i x e; ⟨v, a, b.mono f⟩, fun i x e => absurd e (no i x), fun i j x y p _ e _ => absurd e (no i x)⟩
theorem PD.drop (i : Nat) (h : PD TB X e (env.set i .no) x) : PD TB X e env x := fun w0 w σ Q k q => h w0 w σ Q (k.drop i) q
structure Lc2Turn {β : Type} (TB : Tbs) (X : Cx) (scope : Scope) (tg tg1 iter1 elt : Expr) (vs vs1 : List Nat) (l : List Sl) (d : D) (src1 : List β) (enc1 : β → D) (f : β → D) : Prop where
  ex : ∃ l' is, (∀ i ∈ is, i ∈ vs) ∧ noOwn l' = true ∧ (∀ (s : Shared) (H : Hp) (C : Addr) (cl : List (Str × Addr)) (fp : List Addr), PGd TB (Blk X scope s H C cl fp) tg l d l' is) ∧
    (∀ (s : Shared) (H : Hp) (C : Addr) (cl : List (Str × Addr)) (fp : List Addr), PId TB (Blk X scope s H C cl fp) tg1 iter1 l' (src1.map enc1)) ∧
    ∀ b ∈ src1, ∃ l2 is1, (∀ i ∈ is1, i ∈ vs1) ∧ (∀ (s : Shared) (H : Hp) (C : Addr) (cl : List (Str × Addr)) (fp : List Addr), PGd TB (Blk X scope s H C cl fp) tg1 (wipeS l' vs1) (enc1 b) l2 is1) ∧
      (∀ (s : Shared) (H : Hp) (C : Addr) (cl : List (Str × Addr)) (fp : List Addr), PD TB (Blk X scope s H C cl fp) elt l2 (f b))
theorem pd_lc2 {α β : Type} (own : List (Str × Nat)) (vs1 : List Nat) (src : List α) (enc : α → D) (src1 : α → List β) (enc1 : β → D) (f : α → β → D) (hv : ∀ i ∈ vs1, i ∈ own.map (·.2)) (hi : PId TB X tg iter env (src.map enc)) (hl : src.length ≤ 9000) (hl1 : ∀ a ∈ src, (src1 a).length ≤ 9)
    (turn : ∀ a ∈ src, Lc2Turn TB X scope tg tg1 iter1 elt (own.map (·.2)) vs1 (wipeS env (own.map (·.2))) (enc a) (src1 a) enc1 (f a))
    (nd : X.N.Nodup) (ok : BlkOk X.N X.env.scope scope own) (hc : X.calm = true := by rfl) (hs : ∀ x, foldedSetIterable iter X.env x = pure x := by intro _; rfl) (hs1 : ∀ env x, foldedSetIterable iter1 env x = pure x := by intro _ _; rfl) :
    PD TB X (.ListComp elt [⟨tg, iter, [], 0⟩, ⟨tg1, iter1, [], 0⟩] scope pos) env (.lst (src.flatMap fun a => (src1 a).map (f a))) := fun w0 w σ Q k q pins s I => by
  have small : ∀ l : List α, (∀ a ∈ l, (src1 a).length ≤ 9) → (l.flatMap fun a => (src1 a).map (f a)).length ≤ 9 * l.length := by
    intro l
    induction l with
    | nil => intro _; exact Nat.zero_le _
    | cons a l ih =>
      intro h
      have h1 := h a List.mem_cons_self
      have h2 := ih fun b hb => h b (List.mem_cons_of_mem _ hb)
      rw [List.flatMap_cons, List.length_append, List.length_map, List.length_cons]
      omega
  refine runE (pe_lc2 hc nd (pi_w tg iter) ok hv (pg_wb tg) (fun _ _ _ _ _ => pts_nil) (pi_wb tg1 iter1) (pg_wb tg1) (fun _ _ _ _ _ => pts_nil) (pe_wb elt) hs hs1) ?_ pins s I
  refine hi w0 w σ _ k fun J w1 g1 l1 it => ?_
  intro Dl hD
  have k1 := k.mono g1 l1
  have hF := g1.fresh hD
  refine ⟨fun i m H => m = src.length - i ∧ i ≤ src.length ∧ ∃ w, w.H = H ∧ LcAt X.K TB w1 Dl ((src.take i).flatMap fun a => (src1 a).map (f a)) w, ⟨src.length, by simp, Nat.zero_le _, ⟨w1.F, upd w1.H Dl (.lst [])⟩, rfl, ⟨g1.own hF (tabs_new g1.tb hD), Le.own hD, ⟨[], upd_same, by simpa using (Reps.nil : Reps X.K w1.F [] [])⟩, hF⟩⟩, ?_⟩
  rintro i m H ⟨rfl, hle, w2, rfl, a2⟩
  by_cases hlt : i < src.length
  · obtain ⟨go, yl⟩ := it.1 i w2 a2.good a2.le.f (by rw [List.length_map]; exact hlt)
    refine .inr ⟨go, fun H' => i + 1 ≤ src.length ∧ ∃ w, w.H = H' ∧ LcAt X.K TB w1 Dl ((src.take (i + 1)).flatMap fun a => (src1 a).map (f a)) w, fun H' ⟨a, b⟩ => ⟨src.length - (i + 1), by omega, rfl, a, b⟩, fun v H2 yy s H' C cl fp => ?_⟩
    obtain ⟨w3, rfl, g3, l3, r3⟩ := yl v H2 yy
    have hm : src[i] ∈ src := List.getElem_mem hlt
    obtain ⟨l', is, hsub, hno, hg, hi1, hb⟩ := (turn src[i] hm).ex
    have a3 := a2.mono g3 l3
    have et : (src.take (i + 1)).flatMap (fun a => (src1 a).map (f a)) = (src.take i).flatMap (fun a => (src1 a).map (f a)) ++ (src1 src[i]).map (f src[i]) := by
      rw [List.take_add_one, List.getElem?_eq_getElem hlt, List.flatMap_append]
      simp
    have r3' := r3 (enc src[i]) (by rw [List.getElem?_map, List.getElem?_eq_getElem hlt]; rfl)
    refine hg s H' C cl fp w0 w3 (wipe σ (own.map (·.2))) v _ ((wipe_ok k1 _).mono g3 (a2.le.trans l3)) r3' ?_
    intro σ2 k2 s2
    refine ⟨?_, ?_⟩
    · rw [wipe_sets s2 hsub, wipe_wipe]
    · unfold tYes
      refine Eq.mpr (if_pos rfl) ?_
      intro s' H'' C' cl' fp'
      refine hi1 s' H'' C' cl' fp' w0 w3 σ2 _ k2 fun J1 w4 g4 l4 it1 => ?_
      have a4 := a3.mono g4 l4
      have k4 := k2.mono g4 l4
      have hl1' := hl1 _ hm
      have hsm := small (src.take i) fun b hb => hl1 b (List.mem_of_mem_take hb)
      have htl : (src.take i).length ≤ 9000 := by rw [List.length_take]; omega
      refine ⟨fun j n H => n = (src1 src[i]).length - j ∧ j ≤ (src1 src[i]).length ∧ ∃ w, w.H = H ∧ LcAt X.K TB w1 Dl ((src.take i).flatMap (fun a => (src1 a).map (f a)) ++ ((src1 src[i]).take j).map (f src[i])) w ∧ FLe w4.F w.F, ⟨(src1 src[i]).length, by simp, Nat.zero_le _, w4, rfl, by simpa using a4, FLe.refl w4.F⟩, ?_⟩
      rintro j n H3 ⟨rfl, hjle, w5, rfl, a5, l5⟩
      by_cases hjlt : j < (src1 src[i]).length
      · obtain ⟨go1, yl1⟩ := it1.1 j w5 a5.good l5 (by rw [List.length_map]; exact hjlt)
        refine .inr ⟨go1, fun H' => j + 1 ≤ (src1 src[i]).length ∧ ∃ w, w.H = H' ∧ LcAt X.K TB w1 Dl ((src.take i).flatMap (fun a => (src1 a).map (f a)) ++ ((src1 src[i]).take (j + 1)).map (f src[i])) w ∧ FLe w4.F w.F, fun H' ⟨a, b⟩ => ⟨_, by omega, rfl, a, b⟩, fun v1 H4 yy1 s1 H1' C1 cl1 fp1 => ?_⟩
        obtain ⟨w6, rfl, g6, l6, r6⟩ := yl1 v1 H4 yy1
        obtain ⟨l2, is1, hsub1, hg1, he⟩ := hb (src1 src[i])[j] (List.getElem_mem hjlt)
        have r6' := r6 (enc1 (src1 src[i])[j]) (by rw [List.getElem?_map, List.getElem?_eq_getElem hjlt]; rfl)
        refine hg1 s1 H1' C1 cl1 fp1 w0 w6 (wipe σ2 vs1) v1 _ ((wipe_ok k4 _).far (noOwn_wipe (noOwn_at hno) _) g6 (l5.trans l6.f) (k1.le.trans (a5.le.trans l6))) r6' ?_
        intro σ3 k3 s3
        refine ⟨?_, ?_⟩
        · rw [wipe_sets s3 hsub1, wipe_wipe]
        · show if true = true then _ else _
          refine Eq.mpr (if_pos rfl) ?_
          intro s7 H7 C7 cl7 fp7
          refine he s7 H7 C7 cl7 fp7 w0 w6 σ3 _ k3 fun v7 w7 g7 l7 r7 => ?_
          have a7 := a5.mono g7 (l6.trans l7)
          obtain ⟨vs7, h7, q7⟩ := a7.h
          refine ⟨vs7, h7, ?_, hjlt, ⟨w7.F, upd w7.H Dl (.lst (vs7 ++ [v7]))⟩, rfl, ?_, ?_⟩
          · rw [q7.length]
            refine size_lt ?_
            rw [List.length_append, List.length_map, List.length_take]
            omega
          · have := a7.push hD h7 r7
            rw [List.append_assoc] at this
            rw [List.take_add_one, List.getElem?_eq_getElem hjlt, List.map_append]
            exact this
          · exact l5.trans (l6.trans l7).f
      · have e : j = (src1 src[i]).length := by omega
        subst e
        rw [List.take_length] at a5
        refine .inl ⟨by have := it1.2 w5 a5.good l5; rwa [List.length_map] at this, hlt, w5, rfl, ?_⟩
        rw [et]
        exact a5
  · have e : i = src.length := by omega
    subst e
    rw [List.take_length] at a2
    obtain ⟨w', e1, g', l', r'⟩ := a2.fin hD
    have := q (.ref Dl) w' g' (l1.trans l') r'
    rw [e1] at this
    exact .inl ⟨by have := it.2 w2 a2.good a2.le.f; rwa [List.length_map] at this, this⟩
/-- for, with a word about what has gone by -/
theorem sd_forP {α : Type} (src : List α) (enc : α → D) (S : List α → List Sl) (Pv : List α → Prop) (hi : PId TB X tg iter env (src.map enc)) (h0 : env = S []) (p0 : Pv [])
    (step : ∀ pre a post, src = pre ++ a :: post → Pv pre → ∃ l' is, PGd TB X tg (S pre) (enc a) l' is ∧ SD TB X body l' (fun o => match o with
      | .nx m => Weak m (S (pre ++ [a])) ∧ Pv (pre ++ [a])
      | .ct m => Weak m (S (pre ++ [a])) ∧ Pv (pre ++ [a])
      | .bk m => SD TB X rest m R
      | .ret d m => R (.ret d m)))
    (done : Pv src → SD TB X rest (S src) R) (hp : PassesOwn (model X.prog X.w) X.A X.env X.xe := by exact PassesOwn.never) (hc : X.calm = true := by rfl) (hs : ∀ x, foldedSetIterable iter X.env x = pure x := by intro _; rfl) : SD TB X (.For tg iter body [] pos :: rest) env R :=
  sd_for (fun i l => l = S (src.take i) ∧ Pv (src.take i)) hi ⟨h0, p0⟩ (fun i d l hd hI => by
    rw [List.getElem?_map] at hd
    cases q : src[i]? with
    | none =>
      rw [q] at hd
      cases hd
    | some a =>
      rw [q] at hd
      cases hd
      obtain ⟨rfl, hP⟩ := hI
      obtain ⟨l', is, h1, h2⟩ := step (src.take i) a (src.drop (i + 1)) (by
        obtain ⟨hi, rfl⟩ := List.getElem?_eq_some_iff.mp q
        rw [← List.drop_eq_getElem_cons hi, List.take_append_drop]) hP
      have e : src.take (i + 1) = src.take i ++ [a] := by
        rw [List.take_add_one, q]
        rfl
      refine ⟨l', is, h1, h2.mono fun o r => ?_⟩
      cases o with
      | nx m => exact ⟨_, r.1, by rw [e], by rw [e]; exact r.2⟩
      | ct m => exact ⟨_, r.1, by rw [e], by rw [e]; exact r.2⟩
      | bk m => exact r
      | ret d => exact r) (fun l hl => by
    obtain ⟨rfl, hP⟩ := hl
    rw [List.length_map, List.take_length] at hP ⊢
    exact done hP) hp hc hs
end
end Lw
set_option Elab.async false
set_option linter.all false
set_option maxRecDepth 100000
set_option maxHeartbeats 4000000
/-! # A lambda of one parameter, called -/
namespace Lw
open PySem PySem.Spec PyProof.Rows L2 LamX NdefX
/-- a lambda: its words, the cells that it captured, its code object -/
structure LF where
  qual : Str
  params : Arguments
  body : Expr
  scope : Scope
  cl : List (Str × Addr)
  c : Addr
abbrev LF.obj (F : LF) (pm ctv : Value) : Obj := PySem.W.kla_obj "<lambda>" F.qual F.params F.body F.scope F.cl pm F.c ctv
/-- its context, cs its cells -/
def lcx (P : Program) (w : World) (K : PySem.W.Frag) (mg : Str → Option Value) (base : Heap) (N : List Str) (F : LF) (f : Addr) (cs : List (Str × Addr)) (A : Around) (outer : List Env) (s : Shared) (H : Hp) : Cx where
  prog := P
  w := w
  K := K
  mg := mg
  base := base
  A := A.deeper (PySem.W.envX F.qual F.scope s.heap.objs.size f (.ref F.c) cs)
  N := N
  s_0 := s
  H_0 := H
  env := PySem.W.envX F.qual F.scope s.heap.objs.size f (.ref F.c) cs
  outer := outer
  stack := PySem.W.envX F.qual F.scope s.heap.objs.size f (.ref F.c) cs :: outer
  ex := []
  calm := true
  fn := fun _ => false
  pn := []
  xe := fun _ _ => False
/-- what the lambda's names are at its entry -/
structure LNames (N : List Str) (sc : Scope) (cs : List (Str × Addr)) (fr : List Str) (ws : List (Option V)) (x : Str) (u : Value) (v : V) (h : Heap) (H : Hp) (σ : L2.St) : Prop where
  len : σ.length = N.length
  inj : ∀ y z c, cs.lookup y = some c → cs.lookup z = some c → y = z
  has : ∀ y, (sc.names.lookup y = some .cell ∨ sc.names.lookup y = some .free) → ∃ c, cs.lookup y = some c
  cell : ∀ y c, cs.lookup y = some c → H c = none ∧ ∃ v, h.IsCell c v
section
variable {P : Program} {w : World} {K : PySem.W.Frag} {mg : Str → Option Value} {base : Heap} {N : List Str} {F : LF} {f : Addr} {A : Around} {outer : List Env} {s : Shared} {H : Hp} {TB : Tbs}
theorem lam_inv {h₁ : Heap} {tk : Nat} {σ : L2.St} {cs : List (Str × Addr)} {m : Str → Option Value} (hk : F.scope.kind = .function) (hd : A.handled = none) (e0 : Env0 P w K mg base A outer s H)
    (hlen : σ.length = N.length) (inj : ∀ y z c, cs.lookup y = some c → cs.lookup z = some c → y = z) (has : ∀ y, (F.scope.names.lookup y = some .cell ∨ F.scope.names.lookup y = some .free) → ∃ c, cs.lookup y = some c)
    (cell : ∀ y c, cs.lookup y = some c → H c = none ∧ ∃ v, h₁.IsCell c v) (hns : h₁.Ns s.heap.objs.size m) (kp : ∀ b o, s.heap.get? b = some o → h₁.get? b = some o)
    (loc : ∀ (i : Nat) (y : Str) (v : V), N[i]? = some y → σ[i]? = some (some v) → Vis F.scope y → ∃ u, L2.RelV v u ∧ ((F.scope.names.lookup y = some .local ∧ m y = some u) ∨ ((F.scope.names.lookup y = some .cell ∨ F.scope.names.lookup y = some .free) ∧ ∃ c, cs.lookup y = some c ∧ h₁.IsCell c (some u)))) :
    Inv (lcx P w K mg base N F f cs A outer s H) [] σ H { s with heap := h₁, toks := tk } := by
  have noA : ∀ b : Addr, b ∉ (lcx P w K mg base N F f cs A outer s H).ex := fun b z => absurd (show b ∈ ([] : List Addr) from z) (by simp)
  refine ⟨⟨e0.mod, hk, rfl, rfl, Nat.le_refl _, inj, has, fun y c z _ => ?_, fun _ => hd, Around.frames_deeper e0.frames, .inr ⟨rfl, rfl⟩, fun b z => absurd z (noA b), e0.bs, e0.bsz, fun b _ _ => noA b, fun b z => absurd z (noA b), e0.funs, e0.frf⟩,
    rfl, e0.bare, Un.kept kp, ⟨m, hns, loc⟩, fun y c e => (cell y c e).2, e0.hok.fresh (Nat.le_refl _), fun y c e => (cell y c e).1, fun q hq => absurd (show q ∈ ([] : List (Addr × Obj)) ++ [] from hq) (by simp), e0.hok.kept kp, hlen⟩
  have z : false = true := z
  cases z
/-- the call of a lambda whose parameter is a plain local -/
theorem lam_runL {k : Nat} {pm ctv : Value} {x : Str} {u : Value} {v : V} {fr : List Str} {ws : List (Option V)} {Q : VK} (S : NScope N [x] fr F.scope) (hr : Room (k + 1) A) (e0 : Env0 P w K mg base A outer s H) (hf : s.heap.get? f = some (F.obj pm ctv)) (hc : s.heap.CodeRec (.ref F.c) F.qual)
    (hb : bindArgs (PySem.W.kla_fn "<lambda>" F.qual F.params F.body F.scope F.cl pm (.ref F.c) ctv) ⟨[u], []⟩ = pure [(x, u)]) (C : CellsAt F.cl fr ws s.heap H) (r : L2.RelV v u)
    (hbody : RunE (lcx P w K mg base N F f F.cl A outer s H) F.body (startF N [v] ws) H Q) : codeAny (model P w) A (.call (.ref f) ⟨[u], []⟩) (CR CX0 outer P w H s Q E0) s := by
  have lim : s.heap.NoLimit := e0.mod.nolimit.keeps fun b o e => (e0.bs b o e).1
  refine PySem.W.kla_callFunE hr.depth hf rfl S.co S.gen rfl hc ?_
  rw [hb]
  refine wpAny_pure (wpAny_newFunctionEnv S.nocell (fun p hp => by
    rw [List.mem_singleton.mp hp]
    exact S.par x (by simp)) (fun h₁ hns hsb => ⟨lim.fresh _ hsb, ?_⟩) S.kind)
  have kp : ∀ b o, s.heap.get? b = some o → h₁.get? b = some o := fun b o e => hsb.extBut b o (Nat.ne_of_lt (Heap.lt_size e)) (Heap.get?_push_of_some _ e)
  have I0 : Inv (ncx CX0 P w K mg base N ⟨"<lambda>", F.qual, F.params, [], F.scope, F.cl, F.c⟩ f A outer s H E0) [] (startF N [v] ws) H { s with heap := h₁, toks := s.toks + 1 } :=
    inv_startN (ps := [x]) (fr := fr) (us := [u]) S hr.hd e0 rfl (.cons r .nil) C hns kp
  have J : Inv (lcx P w K mg base N F f F.cl A outer s H) [] (startF N [v] ws) H { s with heap := h₁, toks := s.toks + 1 } := by
    obtain ⟨⟨a1, a2, a3, a4, a5, a6, a7, a8, a9, a10, a11, a12, a13, a14, a15, a16, a17, a18⟩, b1, b2, b3, b4, b5, b6, b7, b8, b9, b10⟩ := I0
    exact ⟨⟨a1, a2, a3, a4, a5, a6, a7, a8, a9, a10, a11, a12, a13, a14, a15, a16, a17, a18⟩, b1, b2, b3, b4, b5, b6, b7, b8, b9, b10⟩
  refine PySem.W.kla_codeExpr (wpAny_mono (hbody [] _ J) (fun v' s' hq => ?_) fun e s' hq => hq.elim)
  obtain ⟨w', H', J', rv, q⟩ := hq
  exact ⟨w', H', J'.os, J'.bare, J'.base, J'.hok, rv, q⟩
theorem cells_none : ∀ (names : List (Str × NameKind)) (n : Nat) (acc : List (Str × Addr)) (h : Heap), (∀ y ∈ names, y.2 ≠ .cell) → PySem.cellsFrom n names acc = acc ∧ PySem.pushCells h names = h
  | [], _, _, _, _ => ⟨rfl, rfl⟩
  | (y, k) :: r, n, acc, h, hn => by
    have hk : (k == NameKind.cell) = false := by simpa using hn _ List.mem_cons_self
    have ih := cells_none r n acc h fun z hz => hn z (List.mem_cons_of_mem _ hz)
    unfold PySem.cellsFrom PySem.pushCells
    rw [hk]
    exact ih
/-- its names: the parameter, a cell; then what it captures -/
structure CScope (N fr : List Str) (x : Str) (sc : Scope) : Prop where
  kind : sc.kind = .function
  co : sc.isCoroutine = false
  gen : sc.isGenerator = false
  pre : N.take (1 + fr.length) = x :: fr
  names : ∃ r, sc.names = (x, .cell) :: r ∧ ∀ y ∈ r, y.1 ≠ x ∧ y.2 ≠ .cell ∧ y.2 ≠ .local
  free : ∀ y ∈ sc.names, y.2 = .free → y.1 ∈ fr
  frk : ∀ y ∈ fr, sc.names.lookup y = some .free
theorem lam_runC {k : Nat} {pm ctv : Value} {x : Str} {u : Value} {v : V} {fr : List Str} {ws : List (Option V)} {Q : VK} (S : CScope N fr x F.scope) (nd : N.Nodup) (hx : ∀ c, F.cl.lookup x ≠ some c) (hr : Room (k + 1) A) (e0 : Env0 P w K mg base A outer s H) (hf : s.heap.get? f = some (F.obj pm ctv)) (hc : s.heap.CodeRec (.ref F.c) F.qual)
    (hb : bindArgs (PySem.W.kla_fn "<lambda>" F.qual F.params F.body F.scope F.cl pm (.ref F.c) ctv) ⟨[u], []⟩ = pure [(x, u)]) (C : CellsAt F.cl fr ws s.heap H) (r : L2.RelV v u)
    (hbody : RunE (lcx P w K mg base N F f ((x, s.heap.objs.size + 1) :: F.cl) A outer s H) F.body (some v :: (ws ++ List.replicate (N.length - 1 - ws.length) none)) H Q) : codeAny (model P w) A (.call (.ref f) ⟨[u], []⟩) (CR CX0 outer P w H s Q E0) s := by
  have lim : s.heap.NoLimit := e0.mod.nolimit.keeps fun b o e => (e0.bs b o e).1
  obtain ⟨r0, hn, hr0⟩ := S.names
  have hlx : F.scope.names.lookup x = some .cell := by rw [hn]; simp
  have cf : PySem.cellsFrom (s.heap.objs.size + 1) F.scope.names F.cl = (x, s.heap.objs.size + 1) :: F.cl := by
    rw [hn]
    unfold PySem.cellsFrom
    exact (cells_none r0 _ _ s.heap fun y hy => (hr0 y hy).2.1).1
  have pc : ∀ h : Heap, PySem.pushCells h F.scope.names = h.push { cls := .type "cell", data := .cell none } := fun h => by
    rw [hn]
    unfold PySem.pushCells
    exact (cells_none r0 0 [] _ fun y hy => (hr0 y hy).2.1).2
  refine PySem.W.kla_callFunE hr.depth hf rfl S.co S.gen rfl hc ?_
  rw [hb]
  refine wpAny_pure ?_
  simp only [newFunctionEnv, Option.isSome_none, Bool.false_eq_true, if_false]
  refine wpAny_bind (wpAny_alloc ?_)
  refine wpAny_bind (wpAny_layCells _ (fun name kind cells => by cases hkc : kind == NameKind.cell <;> simp [hkc]) _ _ _ _ ?_)
  rw [show ({ s with heap := s.heap.push { cls := .type "frame", data := .dict #[] } } : Shared).heap.objs.size = s.heap.objs.size + 1 from Heap.size_push .., cf]
  show wpAny _ _ _ _ _ { s with heap := PySem.pushCells (s.heap.push { cls := .type "frame", data := .dict #[] }) F.scope.names }
  rw [pc]
  obtain ⟨g, hg⟩ : ∃ g, g = (s.heap.push { cls := .type "frame", data := .dict #[] }).push { cls := .type "cell", data := .cell none } := ⟨_, rfl⟩
  have e1 : g.get? (s.heap.objs.size + 1) = some { cls := .type "cell", data := .cell none } := by
    have q := Heap.get?_push_size (s.heap.push { cls := .type "frame", data := .dict #[] }) (o := { cls := .type "cell", data := .cell none }) rfl
    rw [Heap.size_push] at q
    rw [hg]
    exact q
  have kg : ∀ b o, s.heap.get? b = some o → g.get? b = some o := fun b o e => by
    rw [hg]
    exact Heap.get?_push_of_some _ (Heap.get?_push_of_some _ e)
  have ng : g.Ns s.heap.objs.size fun _ => none := by
    rw [hg]
    exact (Heap.Ns.new s.heap (.type "frame")).keeps fun b o e => Heap.get?_push_of_some _ e
  rw [← hg]
  rw [List.forIn_cons]
  refine wpAny_bind (wpAny_bind (wpAny_bind (wpAny_storeName_cell (v₀ := none) S.kind hlx (by simp [List.lookup]) ⟨_, e1, rfl⟩ fun h₁ hcell hsb => wpAny_pure ?_)))
  dsimp only
  rw [List.forIn_nil]
  refine wpAny_pure (wpAny_pure ?_)
  have hlt : ∀ b o, s.heap.get? b = some o → b ≠ s.heap.objs.size + 1 := fun b o e => Nat.ne_of_lt (Nat.lt_succ_of_lt (Heap.lt_size e))
  have kp : ∀ b o, s.heap.get? b = some o → h₁.get? b = some o := fun b o e => (hsb.2 b (hlt b o e)).trans (kg b o e)
  refine ⟨lim.keeps kp, ?_⟩
  have cold : ∀ {y c}, F.cl.lookup y = some c → c ≠ s.heap.objs.size + 1 := fun {y c} e => by
    obtain ⟨_, z, o, ho, _⟩ := C.all y c e
    exact hlt c o ho
  have split : ∀ {y c}, ((x, s.heap.objs.size + 1) :: F.cl).lookup y = some c → (y = x ∧ c = s.heap.objs.size + 1) ∨ F.cl.lookup y = some c := fun {y c} e => by
    rw [List.lookup_cons] at e
    cases hb : y == x with
    | true =>
      rw [hb] at e
      cases e
      exact .inl ⟨by simpa using hb, rfl⟩
    | false =>
      rw [hb] at e
      exact .inr e
  have put : ∀ {y c}, F.cl.lookup y = some c → ((x, s.heap.objs.size + 1) :: F.cl).lookup y = some c := fun {y c} e => by
    rw [List.lookup_cons]
    have : (y == x) = false := by
      cases hb : y == x with
      | false => rfl
      | true =>
        rw [show y = x by simpa using hb] at e
        exact absurd e (hx c)
    rw [this]
    exact e
  have clen := C.len
  have hpre := S.pre
  have hNl : 1 + fr.length ≤ N.length := by
    have q := congrArg List.length hpre
    rw [List.length_take, List.length_cons] at q
    omega
  have J : Inv (lcx P w K mg base N F f ((x, s.heap.objs.size + 1) :: F.cl) A outer s H) [] (some v :: (ws ++ List.replicate (N.length - 1 - ws.length) none)) H { s with heap := h₁, toks := s.toks } := by
    refine lam_inv (m := fun _ => none) S.kind hr.hd e0 (by rw [List.length_cons, List.length_append, List.length_replicate]; omega) (fun y z c ey ez => ?_) (fun y hy => ?_) (fun y c e => ?_) (ng.sameBut hsb (Nat.ne_of_lt (Nat.lt_succ_self _))) kp (fun i y v' e1 e2 hv => ?_)
    · rcases split ey with ⟨y1, hc1⟩ | qy
      · rcases split ez with ⟨z1, _⟩ | qz
        · rw [y1, z1]
        · exact absurd hc1 (cold qz)
      · rcases split ez with ⟨_, hc2⟩ | qz
        · exact absurd hc2 (cold qy)
        · exact C.inj y z c qy qz
    · rcases hy with hy | hy
      · have hm : (y, NameKind.cell) ∈ (x, NameKind.cell) :: r0 := hn ▸ PySem.mem_of_lookup hy
        rcases List.mem_cons.mp hm with e | hm
        · cases e
          exact ⟨s.heap.objs.size + 1, by simp [List.lookup]⟩
        · exact absurd rfl (hr0 _ hm).2.1
      · obtain ⟨i, hi⟩ := List.mem_iff_getElem?.mp (S.free _ (PySem.mem_of_lookup hy) rfl)
        obtain ⟨c, hc', _⟩ := C.has i y hi
        exact ⟨c, put hc'⟩
    · rcases split e with ⟨rfl, rfl⟩ | e
      · exact ⟨e0.hok.fresh (Nat.le_succ _), _, hcell⟩
      · obtain ⟨h1, v0, o, ho, hd⟩ := C.all y c e
        exact ⟨h1, v0, o, kp c o ho, hd⟩
    · by_cases h0 : i = 0
      · subst h0
        have ey : y = x := by
          have : (N.take (1 + fr.length))[0]? = some y := by rw [List.getElem?_take_of_lt (by omega)]; exact e1
          rw [hpre] at this
          exact (Option.some.inj this).symm
        subst ey
        cases e2
        exact ⟨u, r, .inr ⟨.inl hlx, _, by simp [List.lookup], hcell⟩⟩
      · obtain ⟨j, rfl⟩ : ∃ j, i = j + 1 := ⟨i - 1, by omega⟩
        rw [List.getElem?_cons_succ] at e2
        by_cases hj : j < fr.length
        · rw [List.getElem?_append_left (by omega)] at e2
          have ey : fr[j]? = some y := by
            have : (N.take (1 + fr.length))[j + 1]? = some y := by rw [List.getElem?_take_of_lt (by omega)]; exact e1
            rw [hpre, List.getElem?_cons_succ] at this
            exact this
          obtain ⟨c, hc', hv'⟩ := C.has j y ey
          obtain ⟨u', ru, o, ho, hd⟩ := hv' v' e2
          exact ⟨u', ru, .inr ⟨.inr (S.frk y (List.mem_of_getElem? ey)), c, put hc', o, kp c o ho, hd⟩⟩
        · rw [List.getElem?_append_right (by omega), List.getElem?_replicate] at e2
          split at e2 <;> cases e2
  refine PySem.W.kla_codeExpr (wpAny_mono (hbody [] _ J) (fun v' s' hq => ?_) fun e s' hq => hq.elim)
  obtain ⟨w', H', J', rv, q⟩ := hq
  exact ⟨w', H', J'.os, J'.bare, J'.base, J'.hok, rv, q⟩
end
end Lw
set_option Elab.async false
set_option linter.all false
set_option maxRecDepth 100000
set_option maxHeartbeats 4000000
/-! # sorted(xs, key=f): f may make new things -/
namespace Lw
open PySem PySem.Spec PyProof.Rows L2 PySem.W PySem.Calls
section
variable {X : Cx} {pins : List (Addr × Obj)} {σ : L2.St} {H : Hp} {s : Shared} {TB : Tbs}
theorem not_cell {c : String} {xs : Array Value} {n : Nat} : ∀ v, (seqObj c xs n).data ≠ .cell v := fun v z => by cases z
/-- what may be pinned among the new -/
structure Fresh (X : Cx) (pins : List (Addr × Obj)) (a : Addr) : Prop where
  loc : a ≠ X.env.locals
  fs : a ∉ X.fs
  pin : ∀ p ∈ X.pn ++ pins, p.1 ≠ a
  sz : X.s_0.heap.objs.size ≤ a
theorem fresh_of (I : Inv X pins σ H s) {a : Addr} (h : s.heap.objs.size ≤ a) : Fresh X pins a :=
  ⟨fun z => Nat.lt_irrefl _ (Nat.lt_of_lt_of_le (z ▸ I.lt) h), I.nofs h, fun p hp z => Nat.lt_irrefl _ (Nat.lt_of_lt_of_le (z ▸ Heap.lt_size (I.pin p hp).1) h), Nat.le_trans I.sz h⟩
/-- a pinned sequence of ours is let go, and its object may change or vanish -/
theorem unpin {a : Addr} {c : String} {xs : Array Value} {n t' : Nat} {h' : Heap} (f : Fresh X pins a) (I : Inv X ((a, seqObj c xs n) :: pins) σ H s) (k : ∀ b o, b ≠ a → s.heap.get? b = some o → h'.get? b = some o) : Inv X pins σ H { s with heap := h', toks := t' } := by
  obtain ⟨e, hn, _, _, _⟩ := I.pin (a, seqObj c xs n) (List.mem_append_right _ List.mem_cons_self)
  have I1 : Inv X pins σ H s := I.pins_of fun p hp => I.pin p (List.mem_append_right _ (List.mem_cons_of_mem _ hp))
  refine I1.turned k hn f.loc (.inr f.sz) (fun x c0 e0 z => ?_) f.pin
  obtain ⟨v, o, ho, hd⟩ := I1.cell x c0 e0
  rw [z, e] at ho
  cases ho
  exact not_cell v hd
theorem inv_none (f : Fresh X pins a) (I : Inv X pins σ H s) (h : H a = none) {c : String} {xs : Array Value} {n : Nat} (e : s.heap.get? a = some (seqObj c xs n)) : Inv X ((a, seqObj c xs n) :: pins) σ H s :=
  I.pins_of fun p hp => by
    rcases List.mem_cons.mp hp with rfl | hp
    · exact ⟨e, h, f.loc, f.fs, not_cell⟩
    · exact I.pin p (List.mem_append_right _ hp)
theorem fresh_cons {a b : Addr} {o : Obj} (f : Fresh X pins a) (ne : b ≠ a) : Fresh X ((b, o) :: pins) a :=
  ⟨f.loc, f.fs, fun p hp => by
    rcases List.mem_append.mp hp with hp | hp
    · exact f.pin p (List.mem_append_left _ hp)
    · rcases List.mem_cons.mp hp with rfl | hp
      · exact ne
      · exact f.pin p (List.mem_append_right _ hp), f.sz⟩
/-- the keys made so far -/
structure KAt (X : Cx) (TB : Tbs) (pins : List (Addr × Obj)) (σ : L2.St) (w : Wd) (a kS : Addr) (e1 : Nat) (ks : List D) (kA : Array Value) (e : Nat) (w' : Wd) (s' : Shared) : Prop where
  good : Good TB w'
  le : Le w w'
  inv : Inv X ((kS, seqObj "list" kA e) :: (a, seqObj "list" #[] e1) :: pins) σ w'.H s'
  ks : ∃ xs, Vals xs kA.toList ∧ Reps X.K w'.F xs ks
theorem vals_each {K : PySem.W.Frag} {F : Hp} {R : V → Value → Prop} : ∀ {xs : List V} {us : List Value} {ds : List D} {P : Value → D → Prop} (q : ∀ x u d, RelV x u → Rep K F x d → d ∈ ds → P u d), Vals xs us → Reps K F xs ds → EachIs P us ds
  | _, _, _, _, _, .nil, r => by
    cases r
    exact EachIs.nil
  | _, _, _, _, q, .cons a t, r => by
    cases r with
    | cons r1 r2 => exact EachIs.cons (q _ _ _ a r1 List.mem_cons_self) (vals_each (R := R) (fun x u d h1 h2 h3 => q x u d h1 h2 (List.mem_cons_of_mem _ h3)) t r2)
end
section
variable {X : Cx} {pins : List (Addr × Obj)} {σ : L2.St} {s : Shared} {TB : Tbs} {w : Wd} {E : Value → Shared → Prop} {β : Type} {R : Value → β → Prop} {vs : List Value} {bs : List β} {f : Value} {k : β → D}
theorem each_get : ∀ {vs : List Value} {bs : List β} {j : Nat} {v : Value}, EachIs R vs bs → vs[j]? = some v → ∃ b, bs[j]? = some b ∧ R v b
  | _, _, _, _, .nil, h => by cases h
  | _, _, 0, _, .cons r _, h => by
    cases h
    exact ⟨_, rfl, r⟩
  | _, _, j + 1, _, .cons _ t, h => each_get (j := j) t h
theorem sorted_by {l : Addr} {Q : Value → Shared → Prop} (I : Inv X pins σ w.H s) (g : Good TB w) (hl : s.heap.IsList l vs.toArray) (e : EachIs R vs bs) (hp : ∀ b ∈ bs, pln 60 (k b) = true) (hal : AllAlike (bs.map fun b => toPy (k b))) (hsk : Sortable (bs.map fun b => toPy (k b))) (hL : bs.length ≤ 1000) (hu : X.A.units + 80 < cLine)
    (ht : ∀ x, Builtin.«list.sort» ⟨[.ref x], [(Str.ofString "key", f)]⟩ = ksk_tree x f false)
    (turn : ∀ (v : Value) (b : β), R v b → b ∈ bs → ∀ (pins' : List (Addr × Obj)) (w' : Wd) (s' : Shared), (∀ p ∈ pins, p ∈ pins') → Good TB w' → Le w w' → Inv X pins' σ w'.H s' →
      wpAny (model X.prog X.w) X.A.in1.in1 (call f [v]) (fun u s'' => ∃ w'' x, Good TB w'' ∧ Le w' w'' ∧ Inv X pins' σ w''.H s'' ∧ RelV x u ∧ Rep X.K w''.F x (k b)) (fun _ _ => False) s')
    (h : ∀ (a : Addr) (out : List Value) (xs : List V) (w' : Wd) (s' : Shared), Good TB w' → Le w w' → w'.H a = none → Vals xs out → EachIs R out (bs.mergeSort (dataLe false fun b => toPy (k b))) → Inv X pins σ (upd w'.H a (.lst xs)) s' → Q (.ref a) s')
    (hR : ∀ v b, R v b → ∃ x, RelV x v) :
    wpAny (model X.prog X.w) X.A (call (.builtin "sorted") [.ref l] [(Str.ofString "key", f)]) Q E s := by
  have hvl : vs.length = bs.length := e.length
  have hZ : vs.length ≤ sizeLine := by rw [hvl]; exact size_small (by omega)
  refine sorted_of_sort hl hZ (ksk_s1 _ _) (fun _ => ksk_l1 _ _) fun E' => ?_
  rw [ht]
  obtain ⟨a, ha⟩ : ∃ a, a = s.heap.objs.size + 1 := ⟨_, rfl⟩
  rw [← ha]
  have ho : (copyHeap s.heap vs).get? a = some (seqObj "list" vs.toArray 0) := by rw [ha]; exact copyHeap_at s.heap vs
  unfold ksk_tree
  refine wpAny_bind (listItems_at (s := { s with heap := copyHeap s.heap vs }) ho rfl ?_)
  refine wpAny_bind (listUpdate_at (s := { s with heap := copyHeap s.heap vs }) ho rfl ?_ (by rw [List.size_toArray]; exact hZ) (Nat.zero_le _))
  obtain ⟨g1, hg1⟩ : ∃ g1, g1 = (copyHeap s.heap vs).update a (Obj.mapSeq fun _ => (#[] : Array Value)) := ⟨_, rfl⟩
  obtain ⟨e1, ho1⟩ : ∃ e1, g1.get? a = some (seqObj "list" #[] e1) := ⟨_, by rw [hg1]; exact get?_update_seq ho fun _ => #[]⟩
  have kp1 : ∀ b o, s.heap.get? b = some o → g1.get? b = some o := fun b o q => by
    have nb : b ≠ a := by
      rw [ha]
      exact Nat.ne_of_lt (Nat.lt_succ_of_lt (Heap.lt_size q))
    rw [hg1]
    exact ((Heap.SameBut.update (copyHeap s.heap vs) a _).2 b nb).trans (copyHeap_old q)
  rw [← hg1]
  refine wpAny_bind (seqEpoch_at (s := { s with heap := g1 }) ho1 rfl ?_)
  refine wpAny_bind (wpAny_newTuple ?_ (by show vs.length ≤ _; exact hZ))
  refine wpAny_bind (wpAny_newList ?_ (Nat.zero_le _))
  refine wpAny_holding ?_
  obtain ⟨g2, hg2⟩ : ∃ g2, g2 = g1.push (seqObj "tuple" vs.toArray 0) := ⟨_, rfl⟩
  obtain ⟨kS, hkS⟩ : ∃ kS, kS = g2.objs.size := ⟨_, rfl⟩
  obtain ⟨g3, hg3⟩ : ∃ g3, g3 = g2.push (seqObj "list" #[] 0) := ⟨_, rfl⟩
  have kp2 : ∀ b o, g1.get? b = some o → g3.get? b = some o := fun b o q => by
    rw [hg3, hg2]
    exact Heap.get?_push_of_some _ (Heap.get?_push_of_some _ q)
  have hka : a ≠ kS := by
    rw [hkS, hg2, size_push']
    exact Nat.ne_of_lt (Nat.lt_succ_of_lt (Heap.lt_size ho1))
  have nk0 : g3.get? kS = some (seqObj "list" #[] 0) := by rw [hg3, hkS]; exact Heap.get?_push_size _ rfl
  have na0 : g3.get? a = some (seqObj "list" #[] e1) := kp2 _ _ ho1
  have sza : s.heap.objs.size ≤ a := by rw [ha]; exact Nat.le_succ _
  have szk : s.heap.objs.size ≤ kS := by
    rw [hkS, hg2, size_push']
    exact Nat.le_trans sza (Nat.le_succ_of_le (Nat.le_of_lt (Heap.lt_size ho1)))
  have fa : Fresh X pins a := fresh_of I sza
  have fk : Fresh X ((a, seqObj "list" #[] e1) :: pins) kS := fresh_cons (fresh_of I szk) hka
  have I3 : Inv X ((kS, seqObj "list" #[] 0) :: (a, seqObj "list" #[] e1) :: pins) σ w.H { s with heap := g3 } :=
    inv_none fk (inv_none fa (I.kept (t' := s.toks) fun b o q => kp2 b o (kp1 b o q)) (I.hok.fresh sza) na0) (I.hok.fresh szk) nk0
  show wpAny _ _ (ksk_rest a f false vs.toArray e1 (.ref (g1.push (seqObj "tuple" vs.toArray 0)).objs.size)) _ _ { s with heap := (g1.push (seqObj "tuple" vs.toArray 0)).push (seqObj "list" #[] 0) }
  rw [← hg2, ← hg3, ← hkS]
  unfold ksk_rest
  refine wpAny_bind (wpAny_rule ?_)
  first
    | rw [List.forIn_toArray]
    | (rw [← Array.forIn_toList]; simp only [List.toList_toArray])
  refine wpAny_bind (ksk_fold (fun j s' => ∃ kA e0 w', KAt X TB pins σ w a kS e1 ((bs.take j).map k) kA e0 w' s') vs 0 _ ⟨#[], 0, w, g, Le.refl w, I3, [], .nil, by rw [List.take_zero]; exact .nil⟩ ?step ?done)
  case step =>
    rintro j x s' hx ⟨kA, e0, w', S⟩
    rw [Nat.zero_add] at S ⊢
    obtain ⟨b, hb, rb⟩ := each_get e hx
    refine wpAny_bind (wpAny_attempt (wpAny_mono (turn x b rb (List.mem_of_getElem? hb) _ w' s' (fun p hp => List.mem_cons_of_mem _ (List.mem_cons_of_mem _ hp)) S.good S.le S.inv) (fun v s'' he => ?_) fun _ _ hF => hF.elim))
    obtain ⟨w'', y, g', l', I', ry, ky⟩ := he
    obtain ⟨nk, hn, _, _, _⟩ := I'.pin (kS, seqObj "list" kA e0) (List.mem_append_right _ List.mem_cons_self)
    obtain ⟨ys, hys, hrs⟩ := S.ks
    have hlen : kA.size ≤ 1000 := by
      have h3 : kA.toList.length = ((bs.take j).map k).length := hys.length.symm.trans hrs.length
      rw [Array.length_toList, List.length_map] at h3
      rw [h3]
      exact Nat.le_trans (List.length_take_le' _ _) hL
    try dsimp only
    refine wpAny_bind (listUpdate_at nk rfl ?_ (size_small (by omega)) (Nat.le_trans (Nat.le_of_eq (Array.size_push ..)) (Nat.succ_le_succ (size_small (by omega)))))
    obtain ⟨c2, hc2⟩ : ∃ c2, (s''.heap.update kS (Obj.mapSeq (·.push v))).get? kS = some (seqObj "list" (kA.push v) c2) := ⟨_, get?_update_seq nk (·.push v)⟩
    have sb := Heap.SameBut.update s''.heap kS (Obj.mapSeq (·.push v))
    have I4 := inv_none fk (unpin (t' := s''.toks) fk I' fun b o nb q => (sb.2 b nb).trans q) hn hc2
    refine wpAny_pure ⟨rfl, kA.push v, c2, w'', g', S.le.trans l', I4, ys ++ [y], ?_, ?_⟩
    · rw [show (kA.push v).toList = kA.toList ++ [v] by simp]
      exact hys.append (.cons ry .nil)
    · rw [List.take_add_one, hb, List.map_append]
      exact (hrs.mono l'.f).append (.cons ky .nil)
  case done =>
    rintro s' ⟨kA, e0, w', S⟩
    obtain ⟨nk, hn, _, _, _⟩ := S.inv.pin (kS, seqObj "list" kA e0) (List.mem_append_right _ List.mem_cons_self)
    obtain ⟨na, hna, _, _, _⟩ := S.inv.pin (a, seqObj "list" #[] e1) (List.mem_append_right _ (List.mem_cons_of_mem _ List.mem_cons_self))
    obtain ⟨ys, hys, hrs⟩ := S.ks
    rw [Nat.zero_add, List.take_of_length_le (by omega)] at hrs
    have hk : EachIs (fun v d => ∃ as, Reads s'.heap v d as) kA.toList (bs.map fun b => toPy (k b)) := by
      have h1 : EachIs (fun v d => ∃ as, Reads s'.heap v (toPy d) as) kA.toList (bs.map k) := vals_each (R := RelV) (fun x u d rx rd hd => by
        obtain ⟨b, hb, rfl⟩ := List.mem_map.mp hd
        exact Dp.reads S.inv _ x u (pln_dp S.good.sub 60 _ x (hp b hb) rd) rx) hys hrs
      have gen : ∀ {us : List Value} {ds : List D}, EachIs (fun v d => ∃ as, Reads s'.heap v (toPy d) as) us ds → EachIs (fun v d => ∃ as, Reads s'.heap v d as) us (ds.map toPy) := by
        intro us ds q
        induction q with
        | nil => exact EachIs.nil
        | cons r _ ih => exact EachIs.cons r ih
      have h2 := gen h1
      rw [List.map_map] at h2
      exact h2
    have hsz : kA.size = vs.length := by
      have h1 := hk.length
      rw [Array.length_toList, List.length_map] at h1
      omega
    obtain ⟨G, hG1, hG2⟩ := restrict s'.heap fun b => decide (b ≠ kS) && decide (b ≠ a)
    have gk : ∀ b o, G.get? b = some o → b ≠ kS ∧ b ≠ a ∧ s'.heap.get? b = some o := fun b o q => by
      cases z : decide (b ≠ kS) && decide (b ≠ a) with
      | true =>
        have z2 := hG1 b z
        rw [Bool.and_eq_true, decide_eq_true_eq, decide_eq_true_eq] at z
        exact ⟨z.1, z.2, z2 ▸ q⟩
      | false =>
        rw [hG2 b z] at q
        cases q
    have kg : ∀ b o, b ≠ kS → b ≠ a → s'.heap.get? b = some o → G.get? b = some o := fun b o n1 n2 q => by
      rw [hG1 b (by simp [n1, n2])]
      exact q
    have nG : ∀ b, b = kS ∨ b = a → G.get? b = none := fun b z => hG2 b (by rcases z with rfl | rfl <;> simp)
    have IG : Inv X pins σ w'.H { s' with heap := G, toks := s'.toks } := by
      have I1 : Inv X ((kS, seqObj "list" kA e0) :: pins) σ w'.H s' := S.inv.pins_of fun p hp => by
        rcases List.mem_cons.mp hp with rfl | hp
        · exact S.inv.pin _ (List.mem_append_right _ List.mem_cons_self)
        · exact S.inv.pin p (List.mem_append_right _ (List.mem_cons_of_mem _ (List.mem_cons_of_mem _ hp)))
      obtain ⟨G1, q1, q2⟩ := restrict s'.heap fun b => decide (b ≠ kS)
      have I2 : Inv X ((a, seqObj "list" #[] e1) :: pins) σ w'.H { s' with heap := G1, toks := s'.toks } := unpin fk S.inv fun b o nb q => by
        rw [q1 b (by simp [nb])]
        exact q
      refine unpin (s := { s' with heap := G1, toks := s'.toks }) fa I2 fun b o nb q => ?_
      have q : G1.get? b = some o := q
      by_cases z : b = kS
      · rw [q2 b (by simp [z])] at q
        cases q
      · rw [q1 b (by simp [z])] at q
        exact kg b o z nb q
    refine wpAny_bind (listItems_at nk rfl ?_)
    refine keyH_end (κ := dataKind s'.heap (bs.map fun b => toPy (k b))) (h₁ := G) (s := s') (fun b o _ q => (gk b o q).2.2) (nG kS (.inl rfl)) nk na (Ne.symm hka)
      (SortsAt.data (s := s') hk hal hsk fun d hd => ?_) hsz hZ fun h' tk c kp hout => ⟨rfl, ?_⟩
    · obtain ⟨b, hb, rfl⟩ := List.mem_map.mp hd
      have z := (pln_shape 60 (k b) (hp b hb)).2
      show X.A.units + 1 + 1 + _ < _
      omega
    · have hE : EachIs R (sortVals (dataKind s'.heap (bs.map fun b => toPy (k b))) false kA.toList vs) (bs.mergeSort (dataLe false fun b => toPy (k b))) := keyedOut_each (fun b => toPy (k b)) ⟨s'.heap, kA.toList, hal, rfl, hk⟩ e
      have hmem : ∀ v ∈ sortVals (dataKind s'.heap (bs.map fun b => toPy (k b))) false kA.toList vs, ∃ x, RelV x v := fun v hv => by
        obtain ⟨j, hj⟩ := List.mem_iff_getElem?.mp (sortVals_mem false hv)
        obtain ⟨b, _, rb⟩ := each_get e hj
        exact hR v b rb
      have hvals : ∀ us : List Value, (∀ v ∈ us, ∃ x, RelV x v) → ∃ xs, Vals xs us := by
        intro us
        induction us with
        | nil => exact fun _ => ⟨[], .nil⟩
        | cons u us ih =>
          intro q
          obtain ⟨x, hx⟩ := q u List.mem_cons_self
          obtain ⟨xs, hxs⟩ := ih fun v hv => q v (List.mem_cons_of_mem _ hv)
          exact ⟨x :: xs, .cons hx hxs⟩
      obtain ⟨xs, hxs⟩ := hvals _ hmem
      have hol : xs.length ≤ sizeLine := by
        rw [hxs.length, sortVals_length false (by rw [Array.length_toList]; exact hsz)]
        exact hZ
      exact h a _ xs w' _ S.good S.le hna hxs hE (Inv.laidN (s := { s' with heap := G, toks := s'.toks }) (t' := tk) IG (fun b u q => kp b u (gk b u q).2.1 q) (nG a (.inr rfl)) hna ⟨hol, _, c, hxs, hout⟩)
end
end Lw
set_option Elab.async false
set_option linter.all false
set_option maxRecDepth 100000
set_option maxHeartbeats 4000000
/-! # f(xs, key=lambda x: body): the lambda made, and called -/
namespace Lw
open PySem PySem.Spec PyProof.Rows L2 LamX NdefX
/-- the lambda that the frame of X makes -/
abbrev lf (X : Cx) (params : Arguments) (body : Expr) (scope : Scope) (c' : Addr) : LF := ⟨X.env.qual ++ "<lambda>", params, body, scope, cloFrom X.env.cells scope.names [], c'⟩
/-- the slots at a lambda's entry -/
def lenv (N : List Str) (d : D) (caps : List D) : List Sl := Sl.d d :: (caps.map Sl.d ++ List.replicate (N.length - 1 - caps.length) Sl.no)
section
variable {TB : Tbs} {X : Cx} {env : List Sl} {a : Expr} {y d : D} {pos p lpos kpos : Pos}
theorem lenv_ok {K : PySem.W.Frag} {w : Wd} {N : List Str} {v : V} {ws : List (Option V)} {caps : List D} (g : Good TB w) (r : Rep K w.F v d) (hl : ws.length = caps.length) (h : ∀ (i : Nat) (c : D), caps[i]? = some c → ∃ x, ws[i]? = some (some x) ∧ Rep K w.F x c) :
    Ok K TB w w (some v :: (ws ++ List.replicate (N.length - 1 - ws.length) none)) (lenv N d caps) := by
  unfold lenv
  have none_ : ∀ (i : Nat) (x : Sl), (caps.map Sl.d ++ List.replicate (N.length - 1 - caps.length) Sl.no)[i]? = some x → (∃ c, caps[i]? = some c ∧ x = .d c) ∨ x = .no := fun i x e => by
    by_cases hi : i < caps.length
    · rw [List.getElem?_append_left (by rw [List.length_map]; exact hi), List.getElem?_map, List.getElem?_eq_getElem hi] at e
      cases e
      exact .inl ⟨_, List.getElem?_eq_getElem hi, rfl⟩
    · rw [List.getElem?_append_right (by rw [List.length_map]; omega), List.getElem?_replicate] at e
      split at e
      · cases e
        exact .inr rfl
      · cases e
  refine ⟨g, Le.refl w, by simp [hl], fun i x e => ?_, fun i x e => ?_, fun i j x y p _ e _ => ?_⟩
  · cases i with
    | zero =>
      rw [List.getElem?_cons_zero] at e
      cases e
      exact ⟨v, rfl, r⟩
    | succ i =>
      rw [List.getElem?_cons_succ] at e
      rcases none_ i _ e with ⟨c, hc, z⟩ | z
      · cases z
        obtain ⟨u, h1, h2⟩ := h i _ hc
        have hi := (List.getElem?_eq_some_iff.mp h1).1
        exact ⟨u, by rw [List.getElem?_cons_succ, List.getElem?_append_left hi]; exact h1, h2⟩
      · cases z
  · cases i with
    | zero => cases e
    | succ i =>
      rw [List.getElem?_cons_succ] at e
      rcases none_ i _ e with ⟨c, hc, z⟩ | z <;> cases z
  · cases i with
    | zero => cases e
    | succ i =>
      rw [List.getElem?_cons_succ] at e
      rcases none_ i _ e with ⟨c, hc, z⟩ | z <;> cases z
/-- f(a, key=lambda ..): the lambda is there, pinned; its code object is tracked -/
theorem pd_key {id : String} {n : Str} {c P : Addr} {params : Arguments} {body : Expr} {scope : Scope} (tb : TabB X.base X.mg c P) (hcode : X.env.code = .ref c) (hm : (P, X.env.qual ++ "<lambda>") ∈ TB) (hu : ∀ p ∈ TB, p.1 = P → p.2 = X.env.qual ++ "<lambda>")
    (hfree : ∀ y ∈ scope.names, y.2 = .free → X.env.scope.names.lookup y.1 = some .cell ∨ X.env.scope.names.lookup y.1 = some .free) (hmg : X.mg n = none) (hv : bootBuiltins n = some (.builtin id)) (ha : PD TB X a env y)
    (core : ∀ (w0 w' : Wd) (σ : L2.St) (pins : List (Addr × Obj)) (s : Shared) (v : V) (u : Value) (f c' : Addr) (pm ctv : Value) (Q : VK), Ok X.K TB w0 w' σ env → Rep X.K w'.F v y → RelV v u → w'.H c' = some (CodeO c' (X.env.qual ++ "<lambda>")) →
      Inv X ((f, (lf X params body scope c').obj pm ctv) :: pins) σ w'.H s → (∀ v w'', Good TB w'' → Le w' w'' → Rep X.K w''.F v d → Q v w''.H) → wpAny (model X.prog X.w) X.A (call (.builtin id) [u] [(Str.ofString "key", .ref f)]) (EP X ((f, (lf X params body scope c').obj pm ctv) :: pins) σ Q) X.xe s)
    (hg : Gl X n := by rfl) (hdef : defaultsOf params X.env = ([], []) := by rfl) (hn : n ≠ "__name__" := by decide) (hdb : (n == ("__debug__" : Str)) = false := by decide)
    (he : backTo pos (starEach [a] X.env) = (false, eval a X.env) :: backTo pos (starEach [] X.env) := by rfl) (hpl : (backTo pos (starEach [a] X.env)).any (·.1) = false := by rfl) (hst : starEach [a] X.env = (false, eval a X.env) :: starEach [] X.env := by rfl)
    (hall : (backToKw pos (keywordEach [⟨some "key", .Lambda params body scope lpos, kpos⟩] X.env)).all (·.1.isSome) = true := by rfl) (hnone : (backToKw pos (keywordEach [⟨some "key", .Lambda params body scope lpos, kpos⟩] X.env)).any (·.1.isNone) = false := by rfl)
    (hks : (backToKw pos (keywordEach [⟨some "key", .Lambda params body scope lpos, kpos⟩] X.env)).filterMap (·.1) = [Str.ofString "key"] := by rfl) :
    PD TB X (.Call (.Name n p) [a] [⟨some "key", .Lambda params body scope lpos, kpos⟩] pos) env d := fun w0 w σ Q k q pins s I => by
  refine wpAny_Call_Name_kw (ld_blt I hg hmg hv ?_ hn hdb)
  refine PyProof.Rows.callWith_kw (thn (pds_cons ha pds_nil hst w0 w σ (fun vs H1 => ∃ w1, w1.H = H1 ∧ Good TB w1 ∧ Le w w1 ∧ Reps X.K w1.F vs [y]) k (fun vs w1 g1 l1 r1 => ⟨w1, rfl, g1, l1, r1⟩) pos pins s I) fun us s1 ⟨vs, H1, I1, r1, w1, e1, g1, l1, rs1⟩ => ?_) he hpl hall hnone
  subst e1
  obtain ⟨v, hv2⟩ : ∃ v, vs = [v] := by
    cases rs1 with
    | cons a b =>
      cases b
      exact ⟨_, rfl⟩
  subst hv2
  have rv : Rep X.K w1.F v y := by
    cases rs1 with
    | cons a b => exact a
  obtain ⟨u, rfl, ru⟩ : ∃ u, us = [u] ∧ RelV v u := by
    cases r1 with
    | cons a b =>
      cases b
      exact ⟨_, rfl, a⟩
  have hf : ∀ z ∈ scope.names, z.2 = .free → ∃ c, X.env.cells.lookup z.1 = some c := fun z hz e => (hfree z hz e).elim (fun q => I1.ok.has _ (.inl q)) fun q => I1.ok.has _ (.inr q)
  have make : wpAny (model X.prog X.w) X.A (eval (.Lambda params body scope lpos) X.env) (fun z s2 => wpAny (model X.prog X.w) X.A (call (.builtin id) [u] ([Str.ofString "key"].zip [z])) (EP X pins σ Q) X.xe s2) X.xe s1 := by
    refine lam_make2 I1 tb hcode hm hu g1.tb hdef hf fun f c' pm ctv H2 s2 I2 ex T2 hfo hfn hfr hco => ?_
    have g2 : Good TB ⟨w1.F, H2⟩ := ⟨fun b o e => ex b o (g1.sub b o e) fun ps z => g1.nt b ps (z ▸ e), g1.nt, T2⟩
    have l2 : Le w1 ⟨w1.F, H2⟩ := ⟨FLe.refl _, fun b o e n => ex b o e n, fun _ _ _ _ => rfl⟩
    have I3 : Inv X ((f, (lf X params body scope c').obj pm ctv) :: pins) σ H2 s2 := I2.pins_of fun p hp => by
      rcases List.mem_cons.mp hp with rfl | hp
      · refine ⟨hfo, hfn, fun z => ?_, fun z => ?_, fun v z => by cases z⟩
        · obtain ⟨m, ⟨o, es, ep, ho, hd, _⟩, _⟩ := I2.loc
          have z : f = X.env.locals := z
          rw [← z, hfo] at ho
          cases ho
          cases hd
        · rcases I2.ok.stk with e | ⟨e, e2⟩
          · exact hfr (by rw [e]; exact z)
          · refine hfr ?_
            rw [e]
            unfold frs at z ⊢
            rw [List.filterMap_cons, e2]
            exact List.mem_cons_of_mem _ z
      · exact I2.pin p (List.mem_append_right _ hp)
    refine wpAny_mono (core w0 ⟨w1.F, H2⟩ σ pins s2 v u f c' pm ctv Q ((k.mono g1 l1).mono g2 l2) rv ru hco I3 fun v' w'' g' l' r' => q v' w'' g' ((l1.trans l2).trans l') r') (fun u' s' hq => ?_) fun _ _ z => z
    obtain ⟨v', H', I', r', q'⟩ := hq
    exact ⟨v', H', I'.pins_of fun p hp => I'.pin p (List.mem_append_right _ (List.mem_cons_of_mem _ hp)), r', q'⟩
  rw [hks]
  show wpAny _ _ (evalAll [do let v ← eval (.Lambda params body scope lpos) X.env; standAt pos; pure v]) _ _ _
  refine wpAny_evalAll_cons (wpAny_bind (wpAny_mono make (fun z s2 hz => ?_) fun _ _ z => z))
  exact wpAny_bind (wpAny_standAt (wpAny_pure (wpAny_evalAll_nil hz)))
end
section
variable {TB : Tbs} {X : Cx} {pins : List (Addr × Obj)} {σ : L2.St} {s : Shared} {env : List Sl} {w0 w' : Wd} {v : V} {u : Value} {f : Addr} {pm ctv : Value} {F : LF} {N fr : List Str} {js : List Nat} {caps : List D} {x : Str} {d r : D} {k : Nat}
/-- what the lambda's frame captured, as data -/
theorem caps_at (hok : Ok X.K TB w0 w' σ env) {w2 : Wd} (l : FLe w'.F w2.F) (hc : ∀ (i j : Nat) (c : D), js[i]? = some j → caps[i]? = some c → env[j]? = some (Sl.d c)) (hl : js.length = caps.length) :
    ∀ (i : Nat) (c : D), caps[i]? = some c → ∃ x, (js.map (slotAt σ))[i]? = some (some x) ∧ Rep X.K w2.F x c := fun i c e => by
  have hi := (List.getElem?_eq_some_iff.mp e).1
  obtain ⟨j, hj⟩ : ∃ j, js[i]? = some j := ⟨_, List.getElem?_eq_getElem (by omega)⟩
  obtain ⟨x, h1, h2⟩ := hok.dat j c (hc i j c hj e)
  refine ⟨x, ?_, h2.mono l⟩
  rw [List.getElem?_map, hj]
  show some (slotAt σ j) = _
  rw [slotAt_of h1]
/-- the lambda called within two built-ins, its parameter a cell -/
theorem lam_callC (I : Inv X pins σ w'.H s) (hp : (f, F.obj pm ctv) ∈ pins) (g : Good TB w') (hc : w'.H F.c = some (CodeO F.c F.qual)) (cp : X.Ok → Caps X F.cl fr js) (S : CScope N fr x F.scope) (nd : N.Nodup) (hx : ∀ c, F.cl.lookup x ≠ some c) {A : Around} (hr : Room (k + 1) A) (e0 : Env0 X.prog X.w X.K X.mg X.base A X.stack s w'.H)
    (hb : ∀ u, bindArgs (PySem.W.kla_fn "<lambda>" F.qual F.params F.body F.scope F.cl pm (.ref F.c) ctv) ⟨[u], []⟩ = pure [(x, u)]) (rv : RelV v u) (rd : Rep X.K w'.F v d) (hl : js.length = caps.length) (hcap : ∀ (i : Nat) (c : D), caps[i]? = some c → ∃ x, (js.map (slotAt σ))[i]? = some (some x) ∧ Rep X.K w'.F x c)
    (body : ∀ cs, Room k (A.deeper (PySem.W.envX F.qual F.scope s.heap.objs.size f (.ref F.c) cs)) → PD TB (lcx X.prog X.w X.K X.mg X.base N F f cs A X.stack s w'.H) F.body (lenv N d caps) r) :
    wpAny (model X.prog X.w) A (call (.ref f) [u]) (fun u' s'' => ∃ w'' x, Good TB w'' ∧ Le w' w'' ∧ Inv X pins σ w''.H s'' ∧ RelV x u' ∧ Rep X.K w''.F x r) (fun _ _ => False) s := by
  have hf := (I.pin _ (List.mem_append_right _ hp)).1
  have C := cells_of I (cp I.ok)
  refine wpAny_call (codeAny_mono (lam_runC (F := F) (Q := fun x H' => ∃ w'', w''.H = H' ∧ Good TB w'' ∧ Le w' w'' ∧ Rep X.K w''.F x r) S nd hx hr e0 hf (codeO_at I.hok hc) (hb u) C rv ?_) fun r' s' hq => ?_)
  · have q := body ((x, s.heap.objs.size + 1) :: F.cl) (hr.deeper _) w' w' _ (fun x H' => ∃ w'', w''.H = H' ∧ Good TB w'' ∧ Le w' w'' ∧ Rep X.K w''.F x r) (lenv_ok (N := N) g rd (by rw [List.length_map]; exact hl) hcap) fun v' w'' g'' l'' r'' => ⟨w'', rfl, g'', l'', r''⟩
    exact q
  · cases r' with
    | error er => exact hq.elim
    | ok fl =>
      cases fl with
      | ret u' =>
        obtain ⟨x', H', I', rx, w'', rfl, g'', l'', r''⟩ := I.after hq
        exact ⟨w'', x', g'', l'', I', rx, r''⟩
      | next => exact False.elim hq
      | brk => exact False.elim hq
      | cont => exact False.elim hq
theorem lam_callL (I : Inv X pins σ w'.H s) (hp : (f, F.obj pm ctv) ∈ pins) (g : Good TB w') (hc : w'.H F.c = some (CodeO F.c F.qual)) (cp : X.Ok → Caps X F.cl fr js) (S : NScope N [x] fr F.scope) {A : Around} (hr : Room (k + 1) A) (e0 : Env0 X.prog X.w X.K X.mg X.base A X.stack s w'.H)
    (hb : ∀ u, bindArgs (PySem.W.kla_fn "<lambda>" F.qual F.params F.body F.scope F.cl pm (.ref F.c) ctv) ⟨[u], []⟩ = pure [(x, u)]) (rv : RelV v u) (rd : Rep X.K w'.F v d) (hl : js.length = caps.length) (hcap : ∀ (i : Nat) (c : D), caps[i]? = some c → ∃ x, (js.map (slotAt σ))[i]? = some (some x) ∧ Rep X.K w'.F x c)
    (body : ∀ cs, Room k (A.deeper (PySem.W.envX F.qual F.scope s.heap.objs.size f (.ref F.c) cs)) → PD TB (lcx X.prog X.w X.K X.mg X.base N F f cs A X.stack s w'.H) F.body (lenv N d caps) r) :
    wpAny (model X.prog X.w) A (call (.ref f) [u]) (fun u' s'' => ∃ w'' x, Good TB w'' ∧ Le w' w'' ∧ Inv X pins σ w''.H s'' ∧ RelV x u' ∧ Rep X.K w''.F x r) (fun _ _ => False) s := by
  have hf := (I.pin _ (List.mem_append_right _ hp)).1
  have C := cells_of I (cp I.ok)
  refine wpAny_call (codeAny_mono (lam_runL (F := F) (Q := fun x H' => ∃ w'', w''.H = H' ∧ Good TB w'' ∧ Le w' w'' ∧ Rep X.K w''.F x r) S hr e0 hf (codeO_at I.hok hc) (hb u) C rv ?_) fun r' s' hq => ?_)
  · have q := body F.cl (hr.deeper _) w' w' _ (fun x H' => ∃ w'', w''.H = H' ∧ Good TB w'' ∧ Le w' w'' ∧ Rep X.K w''.F x r) (lenv_ok (N := N) g rd (by rw [List.length_map]; exact hl) hcap) fun v' w'' g'' l'' r'' => ⟨w'', rfl, g'', l'', r''⟩
    exact q
  · cases r' with
    | error er => exact hq.elim
    | ok fl =>
      cases fl with
      | ret u' =>
        obtain ⟨x', H', I', rx, w'', rfl, g'', l'', r''⟩ := I.after hq
        exact ⟨w'', x', g'', l'', I', rx, r''⟩
      | next => exact False.elim hq
      | brk => exact False.elim hq
      | cont => exact False.elim hq
end
end Lw
set_option Elab.async false
set_option linter.all false
set_option maxRecDepth 100000
set_option maxHeartbeats 4000000
/-! # sorted(xs, key=lambda ..) -/
namespace Lw
open PySem PySem.Spec PyProof.Rows L2 LamX NdefX
theorem toPys_int : ∀ l : List Int, toPys (l.map D.int) = l.map PyData.int
  | [] => by simp [toPys]
  | a :: l => by rw [List.map_cons, toPys_cons, List.map_cons, toPys_int l]; simp [toPy]
theorem toPy_eIs (l : List Int) : toPy (eIs l) = .list (l.map PyData.int) := by rw [toPy_lst, toPys_int]
theorem alikeAll_int : ∀ a b : List Int, PySem.W.alikeAll (a.map PyData.int) (b.map PyData.int) = true
  | [], _ => by simp [PySem.W.alikeAll]
  | _ :: _, [] => by simp [PySem.W.alikeAll]
  | x :: a, y :: b => by simp [PySem.W.alikeAll, PySem.W.alike, alikeAll_int a b]
theorem alike_eIs (a b : List Int) : PySem.W.alike (toPy (eIs a)) (toPy (eIs b)) = true := by
  rw [toPy_eIs, toPy_eIs]
  simp [PySem.W.alike, alikeAll_int]
theorem vals_ints_of {us : List Value} : ∀ {ns : List Int}, PySem.W.EachIs (fun v (i : Int) => ∃ t, v = Value.int i t) us ns → ∀ {xs : List V}, Vals xs us → xs = ns.map V.int := by
  intro ns h
  induction h with
  | nil => intro xs q; cases q; rfl
  | cons r _ ih =>
    intro xs q
    cases q with
    | cons a b =>
      obtain ⟨t, rfl⟩ := r
      rw [List.map_cons, ih b]
      congr 1
      rename_i x _
      cases x <;> first | (obtain ⟨t', e⟩ := a; cases e; rfl) | (cases a; done) | (obtain ⟨t', e⟩ := a; cases e; done) | (have a : Value.int _ _ = _ := a; cases a; done)
theorem each_of_vals : ∀ {ns : List Int} {us : List Value}, Vals (ns.map V.int) us → PySem.W.EachIs (fun v (i : Int) => ∃ t, v = Value.int i t) us ns
  | [], _, h => by cases h; exact .nil
  | n :: ns, _, h => by
    cases h with
    | cons a b =>
      obtain ⟨t, rfl⟩ := a
      exact .cons ⟨t, rfl⟩ (each_of_vals b)
section
variable {TB : Tbs} {X : Cx} {env : List Sl} {a : Expr} {pos p lpos kpos : Pos} {k : Nat}
/-- sorted(a, key=lambda x: body), of ints; the keys are lists of ints; x a cell of the lambda's frame -/
theorem pd_sortedKey {c P : Addr} {params : Arguments} {body : Expr} {scope : Scope} {ns : List Int} {x : Str} {N fr : List Str} {js : List Nat} {caps : List D} (kf : Int → List Int) (tb : TabB X.base X.mg c P) (hcode : X.env.code = .ref c) (hm : (P, X.env.qual ++ "<lambda>") ∈ TB) (hu : ∀ p ∈ TB, p.1 = P → p.2 = X.env.qual ++ "<lambda>")
    (hnd : ndefB X.env.scope scope fr = true) (hjs : js.map (fun j => X.N[j]?) = fr.map some) (S : CScope N fr x scope) (nd : N.Nodup) (hx : ∀ cells : List (Str × Addr), ∀ c, (cloFrom cells scope.names []).lookup x ≠ some c) (hr : Room (k + 3) X.A) (hmg : X.mg "sorted" = none) (ha : PD TB X a env (eIs ns)) (hl : ns.length ≤ 1000)
    (hb : ∀ (q : Str) (cl : List (Str × Addr)) (pm cv ctv u : Value), bindArgs (PySem.W.kla_fn "<lambda>" q params body scope cl pm cv ctv) ⟨[u], []⟩ = pure [(x, u)])
    (hlen : js.length = caps.length) (hcap : ∀ (i j : Nat) (c : D), js[i]? = some j → caps[i]? = some c → env[j]? = some (Sl.d c))
    (hbody : ∀ i ∈ ns, ∀ (f c' : Addr) (cs : List (Str × Addr)) (A : Around) (s : Shared) (H : Hp) (cl : List (Str × Addr)), Room k (A.deeper (PySem.W.envX (X.env.qual ++ "<lambda>") scope s.heap.objs.size f (.ref c') cs)) →
      PD TB (lcx X.prog X.w X.K X.mg X.base N ⟨X.env.qual ++ "<lambda>", params, body, scope, cl, c'⟩ f cs A X.stack s H) body (lenv N (.int i) caps) (eIs (kf i)))
    (hg : Gl X "sorted" := by rfl) (hdef : defaultsOf params X.env = ([], []) := by rfl)
    (he : backTo pos (starEach [a] X.env) = (false, eval a X.env) :: backTo pos (starEach [] X.env) := by rfl) (hpl : (backTo pos (starEach [a] X.env)).any (·.1) = false := by rfl) (hst : starEach [a] X.env = (false, eval a X.env) :: starEach [] X.env := by rfl)
    (hall : (backToKw pos (keywordEach [⟨some "key", .Lambda params body scope lpos, kpos⟩] X.env)).all (·.1.isSome) = true := by rfl) (hnone : (backToKw pos (keywordEach [⟨some "key", .Lambda params body scope lpos, kpos⟩] X.env)).any (·.1.isNone) = false := by rfl)
    (hks : (backToKw pos (keywordEach [⟨some "key", .Lambda params body scope lpos, kpos⟩] X.env)).filterMap (·.1) = [Str.ofString "key"] := by rfl) :
    PD TB X (.Call (.Name "sorted" p) [a] [⟨some "key", .Lambda params body scope lpos, kpos⟩] pos) env (eIs (ns.mergeSort fun i j => decide (kf i ≤ kf j))) := by
  refine pd_key (id := "sorted") tb hcode hm hu (ndef_free hnd) hmg (by decide +kernel) ha (fun w0 w' σ pins s v u f c' pm ctv Q k0 rv ru hco I q => ?_) hg hdef (by decide) (by decide) he hpl hst hall hnone hks
  have hun := (hr.mono (Nat.le_refl _)).units
  cases rv with
  | lst h1 h2 =>
    rename_i l xs
    obtain rfl := reps_ints h2
    have ru : u = Value.ref l := ru
    subst ru
    obtain ⟨its, rvs, hlist, hz⟩ := I.list (show SqL X.K w'.H l (ns.map V.int) from .inl (.inl (k0.good.sub _ _ h1)))
    have eR := each_of_vals rvs
    have hpk : ∀ b ∈ ns, pln 60 (eIs (kf b)) = true := fun b _ => pln_mono (by decide) (pn_eIs.pl (kf b))
    refine sorted_by (X := X) (TB := TB) (w := w') (bs := ns) (vs := its) (k := fun b => eIs (kf b)) (R := fun v i => ∃ t, v = Value.int i t) I k0.good hlist.isList eR hpk (fun d hd d' hd' => ?_) (.inr fun d hd => ?_) hl ?_ (fun x => PyProof.Rows.ksk_t1 f x) (fun v b hb1 hbm pins' w2 s2 hpin g2 l2 I2 => ?_) (fun a' out xs' w2 s2 g2 l2 na hv hE I2 => ?_) fun v b hb1 => ?_
    · obtain ⟨b, _, rfl⟩ := List.mem_map.mp hd
      obtain ⟨b', _, rfl⟩ := List.mem_map.mp hd'
      exact alike_eIs _ _
    · obtain ⟨b, _, rfl⟩ := List.mem_map.mp hd
      rw [toPy_eIs]
      exact ⟨fun z => by (first | cases z | nomatch z), fun xs z => by (first | cases z | nomatch z)⟩
    · have := hr.un
      omega
    · obtain ⟨t, rfl⟩ := hb1
      have I2' : Inv X pins' σ w2.H s2 := I2
      refine lam_callC (F := lf X params body scope c') (pm := pm) (ctv := ctv) (N := N) (fr := fr) (js := js) (caps := caps) (x := x) (k := k) (v := .int b) (u := .int b t) (d := .int b) (r := eIs (kf b)) I2 (hpin _ List.mem_cons_self) g2 (l2.h _ _ hco codeO_ne) (fun ok => Caps.made ok (ndef_free hnd) (ndef_fr hnd) hjs) S nd (fun c => hx _ c) (A := X.A.in1.in1) ((hr.in1).in1) I2.env0.in1.in1 (fun u => hb _ _ _ _ _ u) ⟨t, rfl⟩ .int hlen (caps_at k0 l2.f hcap hlen) fun cs hr2 => hbody b hbm f c' cs _ s2 _ _ hr2
    · rw [show (fun b => toPy (eIs (kf b))) = fun b => PyData.list ((kf b).map PyData.int) from funext fun b => toPy_eIs (kf b), PySem.W.dataLe_rows] at hE
      have ex := vals_ints_of hE hv
      subst ex
      have hF := g2.fresh na
      refine ⟨.ref a', _, I2, rfl, ?_⟩
      exact q (.ref a') ⟨upd w2.F a' _, upd w2.H a' _⟩ (g2.new na fun _ z => by cases z) (l2.trans (Le.new na hF)) (.lst upd_same (ints_reps _))
    · obtain ⟨t, rfl⟩ := hb1
      exact ⟨.int b, t, rfl⟩
end
end Lw
set_option Elab.async false
set_option linter.all false
set_option maxRecDepth 100000
set_option maxHeartbeats 4000000
/-! # min(xs), min(xs, key=f) -/
namespace Lw
open PySem PySem.Spec PyProof.Rows L2 PySem.Calls
/-- the first of the least, by lt -/
def bestOf {β : Type} (lt : β → β → Bool) : β → List β → β
  | m, [] => m
  | m, x :: l => bestOf lt (if lt x m then x else m) l
section
variable {X : Cx} {pins : List (Addr × Obj)} {σ : L2.St} {s : Shared} {TB : Tbs} {w : Wd} {β : Type} {R : Value → β → Prop} {vs : List Value} {bs : List β} {kv : Value} {k : β → D}
theorem unpinO {a : Addr} {o : Obj} {t' : Nat} {H : Hp} {h' : Heap} (f : Fresh X pins a) (I : Inv X ((a, o) :: pins) σ H s) (kk : ∀ b o, b ≠ a → s.heap.get? b = some o → h'.get? b = some o) : Inv X pins σ H { s with heap := h', toks := t' } := by
  obtain ⟨e, hn, _, _, nc⟩ := I.pin (a, o) (List.mem_append_right _ List.mem_cons_self)
  have I1 : Inv X pins σ H s := I.pins_of fun p hp => I.pin p (List.mem_append_right _ (List.mem_cons_of_mem _ hp))
  refine I1.turned kk hn f.loc (.inr f.sz) (fun x c0 e0 z => ?_) f.pin
  obtain ⟨v, o', ho, hd⟩ := I1.cell x c0 e0
  rw [z, e] at ho
  cases ho
  exact nc v hd
theorem inv_pinO {a : Addr} {o : Obj} {H : Hp} (f : Fresh X pins a) (I : Inv X pins σ H s) (h : H a = none) (e : s.heap.get? a = some o) (nc : ∀ v, o.data ≠ .cell v) : Inv X ((a, o) :: pins) σ H s :=
  I.pins_of fun p hp => by
    rcases List.mem_cons.mp hp with rfl | hp
    · exact ⟨e, h, f.loc, f.fs, nc⟩
    · exact I.pin p (List.mem_append_right _ hp)
theorem unpin2 {a b : Addr} {oa ob : Obj} {t' : Nat} {H : Hp} {h' : Heap} (fa : Fresh X ((b, ob) :: pins) a) (fb : Fresh X pins b) (I : Inv X ((a, oa) :: (b, ob) :: pins) σ H s) (kk : ∀ c o, c ≠ a → c ≠ b → s.heap.get? c = some o → h'.get? c = some o) : Inv X pins σ H { s with heap := h', toks := t' } := by
  obtain ⟨G, q1, q2⟩ := restrict s.heap fun c => decide (c ≠ a)
  have I1 : Inv X ((b, ob) :: pins) σ H { s with heap := G, toks := s.toks } := unpinO fa I fun c o n q => by
    rw [q1 c (by simp [n])]
    exact q
  refine unpinO (s := { s with heap := G, toks := s.toks }) fb I1 fun c o n q => ?_
  have q : G.get? c = some o := q
  by_cases z : c = a
  · rw [q2 c (by simp [z])] at q
    cases q
  · rw [q1 c (by simp [z])] at q
    exact kk c o z n q
theorem pins_swap {p q : Addr × Obj} {H : Hp} (I : Inv X (p :: q :: pins) σ H s) : Inv X (q :: p :: pins) σ H s := I.pins_of fun x hx => I.pin x (List.mem_append_right _ (by
  rcases List.mem_cons.mp hx with rfl | hx
  · exact List.mem_cons_of_mem _ List.mem_cons_self
  · rcases List.mem_cons.mp hx with rfl | hx
    · exact List.mem_cons_self
    · exact List.mem_cons_of_mem _ (List.mem_cons_of_mem _ hx)))
/-- how an item's key is come by -/
def KeyRun (X : Cx) (TB : Tbs) (pins : List (Addr × Obj)) (σ : L2.St) (w : Wd) (bs : List β) (kv : Value) (e k : β → D) : Prop :=
  (kv = .none ∧ e = k) ∨
  ((∃ f, kv = .ref f) ∧ ∀ (v : Value) (x : V) (b : β), b ∈ bs → ∀ (pins' : List (Addr × Obj)) (w' : Wd) (s' : Shared), (∀ p ∈ pins, p ∈ pins') → Good TB w' → Le w w' → RelV x v → Rep X.K w'.F x (e b) → Inv X pins' σ w'.H s' →
      wpAny (model X.prog X.w) X.A.in1 (call kv [v]) (fun u s'' => ∃ w'' x, Good TB w'' ∧ Le w' w'' ∧ Inv X pins' σ w''.H s'' ∧ RelV x u ∧ Rep X.K w''.F x (k b)) (fun _ _ => False) s')
/-- v stands for the datum d -/
def Stands (X : Cx) (w : Wd) (v : Value) (d : D) : Prop := ∃ x, RelV x v ∧ Rep X.K w.F x d
theorem Stands.mono {w w' : Wd} {v : Value} {d : D} (h : Stands X w v d) (l : FLe w.F w'.F) : Stands X w' v d := let ⟨x, a, b⟩ := h; ⟨x, a, b.mono l⟩
theorem seq_ne {a b : Addr} {o : Obj} {c : String} {xs : Array Value} {n : Nat} {t : List (Addr × Obj)} {H : Hp} (I : Inv X ((a, seqObj c xs n) :: (b, o) :: t) σ H s) (h : ∀ c xs n, o ≠ seqObj c xs n) : a ≠ b := fun z => by
  have h1 := (I.pin (a, seqObj c xs n) (List.mem_append_right _ List.mem_cons_self)).1
  have h2 := (I.pin (b, o) (List.mem_append_right _ (List.mem_cons_of_mem _ List.mem_cons_self))).1
  subst z
  rw [h1] at h2
  exact h c xs n (Option.some.inj h2).symm
theorem min_loop {it S l : Addr} {e : β → D} {xs : List V} {A : Around} {Rz : Result → Shared → Prop} (hA : A = X.A) (hc : X.calm = true) (lt : β → β → Bool) (fi : Fresh X pins it) (fS : ∀ o, Fresh X ((it, o) :: pins) S) (hl : w.F l = some (.lst xs)) (hx : Reps X.K w.F xs (bs.map e)) (K : KeyRun X TB pins σ w bs kv e k)
    (hp : ∀ b ∈ bs, pln 60 (k b) = true) (hal : ∀ b ∈ bs, ∀ b' ∈ bs, PySem.W.alike (toPy (k b)) (toPy (k b')) = true) (hnn : ∀ b ∈ bs, toPy (k b) ≠ .none) (hlt : ∀ b ∈ bs, ∀ b' ∈ bs, PySem.W.dataLt (toPy (k b)) (toPy (k b')) = lt b b') (hu : X.A.units + 80 < cLine)
    (hR : ∀ (v : Value) (m : β) (w' : Wd) (s' : Shared), (∀ b0 r, bs = b0 :: r → m = bestOf lt b0 r) → Good TB w' → Le w w' → Inv X pins σ w'.H s' → Stands X w' v (e m) → Rz (.ok (.ret v)) s') (hne : bs ≠ []) :
    ∀ (n j : Nat) (s : Shared) (w' : Wd) (bst : Array Value) (o : Obj) (c : Nat), bs.length - j = n → j ≤ bs.length → s.heap.IsListIter it l j → Good TB w' → Le w w' → (∀ c xs n, o ≠ seqObj c xs n) → Inv X ((S, seqObj "list" bst c) :: (it, o) :: pins) σ w'.H s →
      ((j = 0 ∧ bst = #[]) ∨ ∃ iv vv m, bst = #[iv, vv] ∧ m ∈ bs ∧ Stands X w' iv (e m) ∧ Stands X w' vv (k m) ∧ ∀ b0 r, bs = b0 :: r → bestOf lt m (bs.drop j) = bestOf lt b0 r) →
      codeAny (model X.prog X.w) A (.builtin "min.loop" ⟨[.ref it, kv, .ref S], []⟩) Rz s := by
  have hname : (toString "min" ++ toString ".loop" : String) = "min.loop" := by decide
  subst hA
  intro n
  induction n with
  | zero =>
    intro j s w' bst o c hn hj hit g l' no I hb
    have hin : j = bs.length := by omega
    obtain ⟨nS, hnS, _, _, _⟩ := I.pin (S, seqObj "list" bst c) (List.mem_append_right _ List.mem_cons_self)
    have hSi := seq_ne I no
    rcases hb with ⟨rfl, _⟩ | ⟨iv, vv, m, rfl, hm, si, sv, hbest⟩
    · exact absurd (List.eq_nil_of_length_eq_zero hin.symm) hne
    refine codeAny_builtin F.entry_min_loop ?_
    rw [Around.under_plainId F.plain_min_loop _]
    show wpAny _ X.A.in1 (seqItems? (.ref S) >>= _) _ _ s
    refine wpAny_bind (wpAny_seqItems nS rfl ?_)
    show wpAny _ X.A.in1 (tryCatch (pyNext (.ref it)) _ >>= _) _ _ s
    obtain ⟨its, rv, hlist, hz⟩ := I.list (show SqL X.K w'.H l xs from .inl (.inl (g.sub _ _ (l'.f _ _ hl))))
    have hlen : its.length = bs.length := by
      have h1 := rv.length
      have h2 := hx.length
      rw [List.length_map] at h2
      omega
    refine wpAny_bind (wpAny_tryCatch (wpAny_pyNext_list_end (I.ok.hd hc) hit hlist.isList (by rw [hin, ← hlen]; simp) fun h' sb => ?_))
    have nS' : h'.get? S = some (seqObj "list" #[iv, vv] c) := sb S _ hSi nS
    show wpAny _ X.A.in1 (updateSeq S (fun _ => #[]) >>= _) _ _ _
    refine wpAny_bind ?_
    refine wpAny_updateSeq nS' rfl (wpAny_bind (wpAny_letGo (wpAny_pure ?_)))
    have I1 : Inv X pins σ w'.H { s with heap := h'.update S (Obj.mapSeq fun _ => #[]), toks := s.toks } := unpin2 (fS o) fi I fun b o n1 n2 q => ((Heap.SameBut.update h' S (Obj.mapSeq fun _ => #[])).2 b n1).trans (sb b o n2 q)
    exact hR iv m w' _ (fun b0 r hbr => by
      have := hbest b0 r hbr
      rw [hin, List.drop_length] at this
      exact this) g l' I1 si
  | succ n ih =>
    intro j s w' bst o c hn hj hit g l' no I hb
    have hjl : j < bs.length := by omega
    obtain ⟨nS, hnS, _, _, _⟩ := I.pin (S, seqObj "list" bst c) (List.mem_append_right _ List.mem_cons_self)
    obtain ⟨_, hnI, _, _, _⟩ := I.pin (it, o) (List.mem_append_right _ (List.mem_cons_of_mem _ List.mem_cons_self))
    have hSi := seq_ne I no
    refine codeAny_builtin F.entry_min_loop ?_
    rw [Around.under_plainId F.plain_min_loop _]
    show wpAny _ X.A.in1 (seqItems? (.ref S) >>= _) _ _ s
    refine wpAny_bind (wpAny_seqItems nS rfl ?_)
    show wpAny _ X.A.in1 (tryCatch (pyNext (.ref it)) _ >>= _) _ _ s
    obtain ⟨its, rv, hlist, hz⟩ := I.list (show SqL X.K w'.H l xs from .inl (.inl (g.sub _ _ (l'.f _ _ hl))))
    have hlen : its.length = bs.length := by
      have h1 := rv.length
      have h2 := hx.length
      rw [List.length_map] at h2
      omega
    obtain ⟨xj, hxj, rxj⟩ := hx.get (i := j) (d := e bs[j]) (by rw [List.getElem?_map, List.getElem?_eq_getElem hjl]; rfl)
    obtain ⟨item, hitem, ritem⟩ := rv.get hxj
    have hmj : bs[j] ∈ bs := List.getElem_mem hjl
    refine wpAny_bind (wpAny_tryCatch (wpAny_pyNext_list_item hit hlist.isList (x := item) (by rw [List.getElem?_toArray]; exact hitem) fun h' hit' sb => ?_))
    obtain ⟨o1, ho1, hoc, hod⟩ := id hit'
    have no1 : ∀ c xs n, o1 ≠ seqObj c xs n := fun c xs n z => by
      subst z
      cases hod
    have I1 : Inv X ((S, seqObj "list" bst c) :: (it, o1) :: pins) σ w'.H { s with heap := h', toks := s.toks } := by
      have a1 := unpinO (t' := s.toks) (h' := h') (fresh_cons fi hSi) (pins_swap I) fun b u hb q => (sb.2 b hb).trans q
      exact pins_swap (inv_pinO (fresh_cons fi hSi) a1 hnI ho1 fun v z => by rw [hod] at z; cases z)
    have sitem : Stands X w' item (e bs[j]) := ⟨xj, ritem, rxj.mono l'.f⟩
    have hdrop : bs.drop j = bs[j] :: bs.drop (j + 1) := List.drop_eq_getElem_cons hjl
    -- once the key is there
    have again : ∀ (iv vv : Value) (m : β) (w2 : Wd) (s2 : Shared) (b2 : Array Value) (c2 : Nat), b2 = #[iv, vv] → m ∈ bs → Good TB w2 → Le w w2 → s2.heap.IsListIter it l (j + 1) → Inv X ((S, seqObj "list" b2 c2) :: (it, o1) :: pins) σ w2.H s2 → Stands X w2 iv (e m) → Stands X w2 vv (k m) → (∀ b0 r, bs = b0 :: r → bestOf lt m (bs.drop (j + 1)) = bestOf lt b0 r) →
        codeAny (model X.prog X.w) X.A (.builtin "min.loop" ⟨[.ref it, kv, .ref S], []⟩) Rz s2 := fun iv vv m w2 s2 b2 c2 hb2 hm g2 l2 hit2 I2 s1 s3 hbest => ih (j + 1) s2 w2 b2 o1 c2 (by omega) hjl hit2 g2 l2 no1 I2 (.inr ⟨iv, vv, m, hb2, hm, s1, s3, hbest⟩)
    have put : ∀ (iv vv : Value) (w2 : Wd) (s2 : Shared) (b2 : Array Value) (c2 : Nat), Inv X ((S, seqObj "list" b2 c2) :: (it, o1) :: pins) σ w2.H s2 → s2.heap.IsListIter it l (j + 1) → ∃ c3, Inv X ((S, seqObj "list" #[iv, vv] c3) :: (it, o1) :: pins) σ w2.H { s2 with heap := s2.heap.update S (Obj.mapSeq fun _ => #[iv, vv]), toks := s2.toks } ∧ (s2.heap.update S (Obj.mapSeq fun _ => #[iv, vv])).IsListIter it l (j + 1) := fun iv vv w2 s2 b2 c2 I2 hit2 => by
      obtain ⟨n2, hn2, _, _, _⟩ := I2.pin (S, seqObj "list" b2 c2) (List.mem_append_right _ List.mem_cons_self)
      have sb2 := Heap.SameBut.update s2.heap S (Obj.mapSeq fun _ => #[iv, vv])
      have n3 := get?_update_seq n2 fun _ => #[iv, vv]
      refine ⟨_, inv_pinO (fS o1) (unpinO (fS o1) I2 fun b u hb q => (sb2.2 b hb).trans q) hn2 n3 not_cell, ?_⟩
      obtain ⟨o2, h2, h3, h4⟩ := hit2
      exact ⟨o2, (sb2.2 it (Ne.symm hSi)).trans h2, h3, h4⟩
    rcases hb with ⟨j0, rfl⟩ | ⟨iv, ov, m, rfl, hm, si, sv, hbest⟩
    · rcases K with ⟨rfl, ek⟩ | ⟨⟨f, rfl⟩, turn⟩
      · obtain ⟨n2, _, _, _, _⟩ := I1.pin (S, seqObj "list" #[] c) (List.mem_append_right _ List.mem_cons_self)
        show wpAny _ X.A.in1 (updateSeq S (fun _ => #[item, item]) >>= _) _ _ _
        refine wpAny_bind ?_
        refine wpAny_updateSeq n2 rfl ?_
        rw [hname]
        obtain ⟨c3, I3, hit3⟩ := put item item w' _ _ _ I1 hit'
        exact wpAny_pure ⟨plainId_quiet F.plain_min_loop _, again item item bs[j] w' _ _ c3 rfl hmj g l' hit3 I3 sitem (show Stands X w' item (k bs[j]) from ek ▸ sitem) fun b0 r hbr => by
          have e0 : bs.drop j = b0 :: r := by rw [j0, hbr]; rfl
          rw [hdrop] at e0
          injection e0 with e1 e2
          rw [e1, e2]⟩
      · show wpAny _ X.A.in1 (tryCatch (holding [item] (call (.ref f) [item])) _ >>= _) _ _ _
        refine wpAny_bind (wpAny_tryCatch (wpAny_holding (wpAny_mono (turn item xj bs[j] hmj _ w' _ (fun p hp => List.mem_cons_of_mem _ (List.mem_cons_of_mem _ hp)) g l' ritem (rxj.mono l'.f) I1) (fun vv s2 hq => ?_) fun _ _ z => z.elim)))
        obtain ⟨w2, x2, g2, l2, I2, rx2, kx2⟩ := hq
        have hit2 : s2.heap.IsListIter it l (j + 1) := ⟨o1, (I2.pin (it, o1) (List.mem_append_right _ (List.mem_cons_of_mem _ List.mem_cons_self))).1, hoc, hod⟩
        obtain ⟨n2, _, _, _, _⟩ := I2.pin (S, seqObj "list" #[] c) (List.mem_append_right _ List.mem_cons_self)
        show wpAny _ X.A.in1 (updateSeq S (fun _ => #[item, vv]) >>= _) _ _ _
        refine wpAny_bind ?_
        refine wpAny_updateSeq n2 rfl ?_
        rw [hname]
        obtain ⟨c3, I3, hit3⟩ := put item vv w2 _ _ _ I2 hit2
        exact wpAny_pure ⟨plainId_quiet F.plain_min_loop _, again item vv bs[j] w2 _ _ c3 rfl hmj g2 (l'.trans l2) hit3 I3 (sitem.mono l2.f) ⟨x2, rx2, kx2⟩ fun b0 r hbr => by
          have e0 : bs.drop j = b0 :: r := by rw [j0, hbr]; rfl
          rw [hdrop] at e0
          injection e0 with e1 e2
          rw [e1, e2]⟩
    · rcases K with ⟨rfl, ek⟩ | ⟨⟨f, rfl⟩, turn⟩
      · obtain ⟨n2, _, _, _, _⟩ := I1.pin (S, seqObj "list" #[iv, ov] c) (List.mem_append_right _ List.mem_cons_self)
        show wpAny _ X.A.in1 (tryCatch (holding [item, item] (richCompare .Lt item ov >>= _)) _ >>= _) _ _ _
        obtain ⟨x1, rx1, kx1⟩ : Stands X w' item (k bs[j]) := ek ▸ sitem
        obtain ⟨x2, rx2, kx2⟩ := sv.mono (FLe.refl _)
        obtain ⟨as, ra⟩ := Dp.reads I1 _ x1 item (pln_dp g.sub 60 _ x1 (hp _ hmj) kx1) rx1
        obtain ⟨as2, ra2⟩ := Dp.reads I1 _ x2 ov (pln_dp g.sub 60 _ x2 (hp _ hm) kx2) rx2
        have hdep := (pln_shape 60 (k bs[j]) (hp _ hmj)).2
        refine wpAny_bind (wpAny_tryCatch (wpAny_holding (wpAny_bind (PySem.W.rcLt_alike _ _ X.A.in1 _ _ _ _ _ ra ra2 (hal _ hmj _ hm) (hnn _ hmj) (by show X.A.units + 1 + _ < _; omega) _ _ _ _ ?_))))
        rw [hlt _ hmj _ hm]
        refine wpAny_bind (wpAny_holding (wpAny_truthy_bool ?_))
        refine wpAny_bind (wpAny_letGo (wpAny_pure ?_))
        cases hq : lt bs[j] m with
        | true =>
          simp only [if_true]
          refine wpAny_bind ?_
          refine wpAny_updateSeq n2 rfl (wpAny_bind (wpAny_letGo ?_))
          rw [hname]
          obtain ⟨c3, I3, hit3⟩ := put item item w' _ _ _ I1 hit'
          exact wpAny_pure ⟨plainId_quiet F.plain_min_loop _, again item item bs[j] w' _ _ c3 rfl hmj g l' hit3 I3 sitem ⟨x1, rx1, kx1⟩ fun b0 r hbr => by
            have := hbest b0 r hbr
            rw [hdrop, bestOf, hq, if_pos rfl] at this
            exact this⟩
        | false =>
          simp only [Bool.false_eq_true, if_false]
          refine wpAny_bind (wpAny_letGo ?_)
          rw [hname]
          exact wpAny_pure ⟨plainId_quiet F.plain_min_loop _, again iv ov m w' _ _ c rfl hm g l' hit' I1 (si.mono (FLe.refl _)) ⟨x2, rx2, kx2⟩ fun b0 r hbr => by
            have := hbest b0 r hbr
            rw [hdrop, bestOf, hq, if_neg Bool.false_ne_true] at this
            exact this⟩
      · show wpAny _ X.A.in1 (tryCatch (holding [item] (call (.ref f) [item])) _ >>= _) _ _ _
        refine wpAny_bind (wpAny_tryCatch (wpAny_holding (wpAny_mono (turn item xj bs[j] hmj _ w' _ (fun p hp => List.mem_cons_of_mem _ (List.mem_cons_of_mem _ hp)) g l' ritem (rxj.mono l'.f) I1) (fun vv s2 hq => ?_) fun _ _ z => z.elim)))
        obtain ⟨w2, x2, g2, l2, I2, rx2, kx2⟩ := hq
        have hit2 : s2.heap.IsListIter it l (j + 1) := ⟨o1, (I2.pin (it, o1) (List.mem_append_right _ (List.mem_cons_of_mem _ List.mem_cons_self))).1, hoc, hod⟩
        obtain ⟨n2, _, _, _, _⟩ := I2.pin (S, seqObj "list" #[iv, ov] c) (List.mem_append_right _ List.mem_cons_self)
        show wpAny _ X.A.in1 (tryCatch (holding [item, vv] (richCompare .Lt vv ov >>= _)) _ >>= _) _ _ _
        obtain ⟨x1, rx1, kx1⟩ := (⟨x2, rx2, kx2⟩ : Stands X w2 vv (k bs[j]))
        obtain ⟨x2, rx2, kx2⟩ := sv.mono l2.f
        obtain ⟨as, ra⟩ := Dp.reads I2 _ x1 vv (pln_dp g2.sub 60 _ x1 (hp _ hmj) kx1) rx1
        obtain ⟨as2, ra2⟩ := Dp.reads I2 _ x2 ov (pln_dp g2.sub 60 _ x2 (hp _ hm) kx2) rx2
        have hdep := (pln_shape 60 (k bs[j]) (hp _ hmj)).2
        refine wpAny_bind (wpAny_tryCatch (wpAny_holding (wpAny_bind (PySem.W.rcLt_alike _ _ X.A.in1 _ _ _ _ _ ra ra2 (hal _ hmj _ hm) (hnn _ hmj) (by show X.A.units + 1 + _ < _; omega) _ _ _ _ ?_))))
        rw [hlt _ hmj _ hm]
        refine wpAny_bind (wpAny_holding (wpAny_truthy_bool ?_))
        refine wpAny_bind (wpAny_letGo (wpAny_pure ?_))
        cases hq : lt bs[j] m with
        | true =>
          simp only [if_true]
          refine wpAny_bind ?_
          refine wpAny_updateSeq n2 rfl (wpAny_bind (wpAny_letGo ?_))
          rw [hname]
          obtain ⟨c3, I3, hit3⟩ := put item vv w2 _ _ _ I2 hit2
          exact wpAny_pure ⟨plainId_quiet F.plain_min_loop _, again item vv bs[j] w2 _ _ c3 rfl hmj g2 (l'.trans l2) hit3 I3 (sitem.mono l2.f) ⟨x1, rx1, kx1⟩ fun b0 r hbr => by
            have := hbest b0 r hbr
            rw [hdrop, bestOf, hq, if_pos rfl] at this
            exact this⟩
        | false =>
          simp only [Bool.false_eq_true, if_false]
          refine wpAny_bind (wpAny_letGo ?_)
          rw [hname]
          exact wpAny_pure ⟨plainId_quiet F.plain_min_loop _, again iv ov m w2 _ _ c rfl hm g2 (l'.trans l2) hit2 I2 (si.mono l2.f) ⟨x2, rx2, kx2⟩ fun b0 r hbr => by
            have := hbest b0 r hbr
            rw [hdrop, bestOf, hq, if_neg Bool.false_ne_true] at this
            exact this⟩
end
end Lw
set_option Elab.async false
set_option linter.all false
set_option maxRecDepth 100000
set_option maxHeartbeats 4000000
/-! # min(xs), min(xs, key=lambda x: ..), over data -/
namespace Lw
open PySem PySem.Spec PyProof.Rows L2 PySem.Calls LamX NdefX
section
variable {prog : Program} {w : World} {A : Around} {E : Value → Shared → Prop} {s : Shared}
theorem fn_tree {id : String} {bi : Builtin} {us : List Value} {kw : List (Str × Value)} {Q : Value → Shared → Prop} (hk : builtinKind id = none) (hp : plainId id = true) (hb : entryFor table id = some bi) (ha : argsOk id ⟨us, kw⟩)
    (hc : wpAny (model prog w) A.in1 (bi ⟨us, kw⟩) (fun fin s1 => match fin with
      | .done f => (match (Except.ok f : Result) with | .ok (.ret v) => Q v s1 | .ok _ => False | .error e => E e s1)
      | .again c1 => c1.quiet = true ∧ codeAny (model prog w) A c1 (fun r s2 => match r with | .ok (.ret v) => Q v s2 | .ok _ => False | .error e => E e s2) s1) E s) :
    wpAny (model prog w) A (call (.builtin id) us kw) Q E s := by
  refine wpAny_call (codeAny_call_builtin hp hb ?_)
  simp only [checkBuiltinCall, hk]
  cases hg : Manifest.signature? id with
  | none => exact wpAny_pure hc
  | some sig =>
    unfold argsOk at ha
    rw [hg] at ha
    first
      | exact wpAny_of_eq ha hc
      | (simp only [hg] at ha ⊢; exact wpAny_of_eq ha hc)
      | (rw [ha]; exact wpAny_pure hc)
theorem args_minK (a v : Value) : argsOk "min" ⟨[a], [(Str.ofString "key", v)]⟩ := by unfold argsOk; kernel_rfl
end
section
variable {X : Cx} {pins : List (Addr × Obj)} {σ : L2.St} {s : Shared} {TB : Tbs} {w : Wd} {β : Type} {bs : List β} {kv : Value} {k e : β → D} {E : Value → Shared → Prop}
theorem min_call {l : Addr} {xs : List V} {kw : List (Str × Value)} (hkw : (kw = [] ∧ kv = .none) ∨ kw = [(Str.ofString "key", kv)] ∧ ∃ f, kv = .ref f) (I : Inv X pins σ w.H s) (g : Good TB w) (hc : X.calm = true) (lt : β → β → Bool) (hl : w.F l = some (.lst xs)) (hx : Reps X.K w.F xs (bs.map e)) (K : KeyRun X TB pins σ w bs kv e k)
    (hp : ∀ b ∈ bs, pln 60 (k b) = true) (hal : ∀ b ∈ bs, ∀ b' ∈ bs, PySem.W.alike (toPy (k b)) (toPy (k b')) = true) (hnn : ∀ b ∈ bs, toPy (k b) ≠ .none) (hlt : ∀ b ∈ bs, ∀ b' ∈ bs, PySem.W.dataLt (toPy (k b)) (toPy (k b')) = lt b b') (hu : X.A.units + 80 < cLine)
    {b0 : β} {r : List β} (hbs : bs = b0 :: r) {Q : Value → Shared → Prop}
    (hQ : ∀ (v : Value) (w' : Wd) (s' : Shared), Good TB w' → Le w w' → Inv X pins σ w'.H s' → Stands X w' v (e (bestOf lt b0 r)) → Q v s') : wpAny (model X.prog X.w) X.A (call (.builtin "min") [.ref l] kw) Q E s := by
  have hname : (toString "min" ++ toString ".loop" : String) = "min.loop" := by decide
  obtain ⟨its, rv, hlist, hz⟩ := I.list (show SqL X.K w.H l xs from .inl (.inl (g.sub _ _ hl)))
  have go : wpAny (model X.prog X.w) X.A.in1 (pyIter (.ref l)) (fun it s2 => wpAny (model X.prog X.w) X.A.in1 (newList []) (fun b s3 => ∀ Rz : Result → Shared → Prop, (∀ v s', Q v s' → Rz (.ok (.ret v)) s') → codeAny (model X.prog X.w) X.A (.builtin "min.loop" ⟨[it, kv, b], []⟩) Rz s3) E s2) E s := by
    refine wpAny_pyIter_list hlist.isList ?_
    refine wpAny_newList ?_ (Nat.zero_le _)
    obtain ⟨it, hit⟩ : ∃ it, it = s.heap.objs.size := ⟨_, rfl⟩
    obtain ⟨S, hS⟩ : ∃ S, S = s.heap.objs.size + 1 := ⟨_, rfl⟩
    obtain ⟨oi, hoi⟩ : ∃ oi : Obj, oi = { cls := .type "list_iterator", data := .fields #[.ref l, .int 0 0] } := ⟨_, rfl⟩
    have e1 : (s.heap.push oi).objs.size = S := by rw [hS]; exact Heap.size_push ..
    have hSz : ({ s with heap := s.heap.push oi } : Shared).heap.objs.size = S := e1
    obtain ⟨g2, hg2⟩ : ∃ g2, g2 = (s.heap.push oi).push (seqObj "list" #[] 0) := ⟨_, rfl⟩
    have kp : ∀ b o, s.heap.get? b = some o → g2.get? b = some o := fun b o q => by rw [hg2]; exact Heap.get?_push_of_some _ (Heap.get?_push_of_some _ q)
    have hi0 : g2.get? it = some oi := by rw [hg2, hit]; exact Heap.get?_push_of_some _ (Heap.get?_push_size _ (by rw [hoi]; rfl))
    have hS0 : g2.get? S = some (seqObj "list" #[] 0) := by rw [hg2, ← e1]; exact Heap.get?_push_size _ rfl
    have no : ∀ c xs n, oi ≠ seqObj c xs n := fun c xs n z => by rw [hoi] at z; cases z
    have fi : Fresh X pins it := fresh_of I (by rw [hit]; exact Nat.le_refl _)
    have nSi : it ≠ S := by rw [hit, hS]; exact Nat.ne_of_lt (Nat.lt_succ_self _)
    have fS : ∀ o, Fresh X ((it, o) :: pins) S := fun o => fresh_cons (fresh_of I (by rw [hS]; exact Nat.le_succ _)) nSi
    have I2 : Inv X ((S, seqObj "list" #[] 0) :: (it, oi) :: pins) σ w.H { s with heap := g2 } :=
      inv_pinO (fS oi) (inv_pinO fi (I.kept (t' := s.toks) kp) (I.hok.fresh (by rw [hit]; exact Nat.le_refl _)) hi0 fun v z => by rw [hoi] at z; cases z) (I.hok.fresh (by rw [hS]; exact Nat.le_succ _)) hS0 not_cell
    have fin : ∀ Rz : Result → Shared → Prop, (∀ v s', Q v s' → Rz (.ok (.ret v)) s') → codeAny (model X.prog X.w) X.A (.builtin "min.loop" ⟨[.ref it, kv, .ref S], []⟩) Rz { s with heap := g2 } := fun Rz hRz => by
      refine min_loop (X := X) (TB := TB) (w := w) (bs := bs) (kv := kv) (k := k) (e := e) (xs := xs) (l := l) rfl hc lt fi fS hl hx K hp hal hnn hlt hu (fun v m w' s' hm g' l' I' st => hRz v s' (hQ v w' s' g' l' I' ?_)) (by rw [hbs]; simp) bs.length 0 _ w #[] oi 0 (by simp) (Nat.zero_le _) ⟨oi, hi0, by rw [hoi], by rw [hoi]; rfl⟩ g (Le.refl w) no I2 (.inl ⟨rfl, rfl⟩)
      rw [← hm b0 r hbs]
      exact st
    rw [hit, hg2, ← e1, hoi] at fin
    exact fin
  rcases hkw with ⟨rfl, rfl⟩ | ⟨rfl, f, rfl⟩
  · refine fn_tree F.kind_min F.plain_min F.entry_min (F.args_min1 _) ?_
    show wpAny _ X.A.in1 (Builtin.Builtins.bindParams "min" ["key", "default"] 0 ⟨[], []⟩ >>= _) _ _ s
    refine wpAny_bind (wpAny_of_eq (show Builtin.Builtins.bindParams "min" ["key", "default"] 0 ⟨[], []⟩ = pure [none, none] from rfl) ?_)
    refine wpAny_bind (wpAny_pure ?_)
    refine wpAny_bind (wpAny_mono go (fun it s2 q => wpAny_bind (wpAny_mono q (fun b s3 q3 => ?_) fun _ _ z => z)) fun _ _ z => z)
    rw [hname]
    exact wpAny_pure ⟨plainId_quiet F.plain_min_loop _, q3 _ fun v s' h => h⟩
  · refine fn_tree F.kind_min F.plain_min F.entry_min (args_minK _ _) ?_
    show wpAny _ X.A.in1 (Builtin.Builtins.bindParams "min" ["key", "default"] 0 ⟨[], [(Str.ofString "key", .ref f)]⟩ >>= _) _ _ s
    refine wpAny_bind (wpAny_of_eq (show Builtin.Builtins.bindParams "min" ["key", "default"] 0 ⟨[], [(Str.ofString "key", .ref f)]⟩ = pure [some (.ref f), none] from rfl) ?_)
    refine wpAny_bind (wpAny_pure ?_)
    refine wpAny_bind (wpAny_mono go (fun it s2 q => wpAny_bind (wpAny_mono q (fun b s3 q3 => ?_) fun _ _ z => z)) fun _ _ z => z)
    rw [hname]
    exact wpAny_pure ⟨plainId_quiet F.plain_min_loop _, q3 _ fun v s' h => h⟩
end
end Lw
set_option Elab.async false
set_option linter.all false
set_option maxRecDepth 100000
set_option maxHeartbeats 4000000
/-! # min over data: the rules; the order of tuples -/
namespace Lw
open PySem PySem.Spec PyProof.Rows L2 LamX NdefX
section
variable {TB : Tbs} {X : Cx} {env : List Sl} {a : Expr} {pos p lpos kpos : Pos} {β : Type} {bs : List β} {b0 : β} {r : List β}
theorem pd_min (e : β → D) (lt : β → β → Bool) (hbs : bs = b0 :: r) (hm : X.mg "min" = none) (hu : X.A.units + 80 < cLine) (ha : PD TB X a env (.lst (bs.map e))) (hp : ∀ b ∈ bs, pln 60 (e b) = true) (hal : ∀ b ∈ bs, ∀ b' ∈ bs, PySem.W.alike (toPy (e b)) (toPy (e b')) = true) (hnn : ∀ b ∈ bs, toPy (e b) ≠ .none) (hlt : ∀ b ∈ bs, ∀ b' ∈ bs, PySem.W.dataLt (toPy (e b)) (toPy (e b')) = lt b b')
    (hc : X.calm = true := by rfl) (hg : Gl X "min" := by rfl) (he : starEach [a] X.env = (false, eval a X.env) :: starEach [] X.env := by rfl) (hpl : (backTo pos (starEach [] X.env)).any (·.1) = false := by rfl) :
    PD TB X (.Call (.Name "min" p) [a] [] pos) env (e (bestOf lt b0 r)) :=
  pd_callB (r := fun vs H Q => ∃ w, w.H = H ∧ Good TB w ∧ Reps X.K w.F vs [.lst (bs.map e)] ∧ ∀ v w', Good TB w' → Le w w' → Rep X.K w'.F v (e (bestOf lt b0 r)) → Q v w'.H) (fun pins s σ H vs us Q I rv ⟨w, ew, g, rs, q⟩ => by
    subst ew
    cases rs with
    | cons r1 r2 =>
      cases r2
      cases r1 with
      | lst h1 h2 =>
        rename_i l xs
        obtain rfl := Vals.ref1 rv
        refine min_call (X := X) (TB := TB) (w := w) (bs := bs) (kv := .none) (e := e) (k := e) (.inl ⟨rfl, rfl⟩) I g hc lt h1 h2 (.inl ⟨rfl, rfl⟩) hp hal hnn hlt hu hbs fun v w' s' g' l' I' ⟨x, rx, kx⟩ => ?_
        exact ⟨x, w'.H, I', rx, q x w' g' l' kx⟩) hm (by decide +kernel) (pds_cons ha pds_nil he) (fun vs w Q g rs q => ⟨w, rfl, g, rs, q⟩) hg (by decide) (by decide) he hpl
/-- min(a, key=lambda x: body), x a plain local of the lambda -/
theorem pd_minKey {c P : Addr} {params : Arguments} {body : Expr} {scope : Scope} {x : Str} {N : List Str} {k : Nat} (e kf : β → D) (lt : β → β → Bool) (hbs : bs = b0 :: r) (tb : TabB X.base X.mg c P) (hcode : X.env.code = .ref c) (hm : (P, X.env.qual ++ "<lambda>") ∈ TB) (hu : ∀ p ∈ TB, p.1 = P → p.2 = X.env.qual ++ "<lambda>")
    (hnd : ndefB X.env.scope scope [] = true) (S : NScope N [x] [] scope) (hr : Room (k + 2) X.A) (hmg : X.mg "min" = none) (ha : PD TB X a env (.lst (bs.map e))) (hp : ∀ b ∈ bs, pln 60 (kf b) = true) (hal : ∀ b ∈ bs, ∀ b' ∈ bs, PySem.W.alike (toPy (kf b)) (toPy (kf b')) = true) (hnn : ∀ b ∈ bs, toPy (kf b) ≠ .none) (hlt : ∀ b ∈ bs, ∀ b' ∈ bs, PySem.W.dataLt (toPy (kf b)) (toPy (kf b')) = lt b b')
    (hb : ∀ (q : Str) (cl : List (Str × Addr)) (pm cv ctv u : Value), bindArgs (PySem.W.kla_fn "<lambda>" q params body scope cl pm cv ctv) ⟨[u], []⟩ = pure [(x, u)])
    (hbody : ∀ b ∈ bs, ∀ (f c' : Addr) (cs : List (Str × Addr)) (A : Around) (s : Shared) (H : Hp) (cl : List (Str × Addr)), Room k (A.deeper (PySem.W.envX (X.env.qual ++ "<lambda>") scope s.heap.objs.size f (.ref c') cs)) →
      PD TB (lcx X.prog X.w X.K X.mg X.base N ⟨X.env.qual ++ "<lambda>", params, body, scope, cl, c'⟩ f cs A X.stack s H) body (lenv N (e b) []) (kf b))
    (hc : X.calm = true := by rfl) (hg : Gl X "min" := by rfl) (hdef : defaultsOf params X.env = ([], []) := by rfl)
    (he : backTo pos (starEach [a] X.env) = (false, eval a X.env) :: backTo pos (starEach [] X.env) := by rfl) (hpl : (backTo pos (starEach [a] X.env)).any (·.1) = false := by rfl) (hst : starEach [a] X.env = (false, eval a X.env) :: starEach [] X.env := by rfl)
    (hall : (backToKw pos (keywordEach [⟨some "key", .Lambda params body scope lpos, kpos⟩] X.env)).all (·.1.isSome) = true := by rfl) (hnone : (backToKw pos (keywordEach [⟨some "key", .Lambda params body scope lpos, kpos⟩] X.env)).any (·.1.isNone) = false := by rfl)
    (hks : (backToKw pos (keywordEach [⟨some "key", .Lambda params body scope lpos, kpos⟩] X.env)).filterMap (·.1) = [Str.ofString "key"] := by rfl) :
    PD TB X (.Call (.Name "min" p) [a] [⟨some "key", .Lambda params body scope lpos, kpos⟩] pos) env (e (bestOf lt b0 r)) := by
  refine pd_key (id := "min") tb hcode hm hu (ndef_free hnd) hmg (by decide +kernel) ha (fun w0 w' σ pins s v u f c' pm ctv Q k0 rv ru hco I q => ?_) hg hdef (by decide) (by decide) he hpl hst hall hnone hks
  cases rv with
  | lst h1 h2 =>
    rename_i l xs
    have ru : u = Value.ref l := ru
    subst ru
    refine min_call (X := X) (TB := TB) (w := w') (bs := bs) (kv := .ref f) (e := e) (k := kf) (.inr ⟨rfl, f, rfl⟩) I k0.good hc lt h1 h2 (.inr ⟨⟨f, rfl⟩, fun v y b hbm pins' w2 s2 hpin g2 l2 ry ky I2 => ?_⟩) hp hal hnn hlt (by have := hr.un; omega) hbs fun v w2 s2 g2 l2 I2 ⟨y, ry, ky⟩ => ?_
    · exact lam_callL (F := lf X params body scope c') (pm := pm) (ctv := ctv) (N := N) (fr := []) (js := []) (caps := []) (x := x) (k := k) (v := y) (u := v) (d := e b) (r := kf b) I2 (hpin _ List.mem_cons_self) g2 (l2.h _ _ hco codeO_ne) (fun ok => Caps.made ok (ndef_free hnd) (ndef_fr hnd) rfl) S (A := X.A.in1) hr.in1 I2.env0.in1 (fun u => hb _ _ _ _ _ u) ry ky rfl (fun i c z => by cases z) fun cs hr2 => hbody b hbm f c' cs _ s2 _ _ hr2
    · exact ⟨y, w2.H, I2, ry, q y w2 g2 l2 ky⟩
end
/-! ### the order of tuples -/
open PySem.W in
theorem dlt_int (a b : Int) (xs ys : List PyData) : rowLt (.int a :: xs) (.int b :: ys) = if a = b then rowLt xs ys else decide (a < b) := by
  unfold rowLt
  rw [dataLt_cons (by simp [alike]), dataLt_int]
  simp only [PyData.eqv, beq_iff_eq]
open PySem.W in
theorem eqv_ints : ∀ a b : List Int, PyData.eqvAll (a.map PyData.int) (b.map PyData.int) = decide (a = b)
  | [], [] => by simp [PyData.eqvAll]
  | [], _ :: _ => by simp [PyData.eqvAll]
  | _ :: _, [] => by simp [PyData.eqvAll]
  | x :: a, y :: b => by
    rw [List.map_cons, List.map_cons, PyData.eqvAll, eqv_ints a b]
    by_cases h1 : x = y <;> by_cases h2 : a = b <;> simp [PyData.eqv, h1, h2]
open PySem.W in
theorem dlt_ints (a b : List Int) (xs ys : List PyData) : rowLt (.list (a.map .int) :: xs) (.list (b.map .int) :: ys) = if a = b then rowLt xs ys else decide (a < b) := by
  unfold rowLt
  rw [dataLt_cons (by simp [alike, alikeAll_int]), dataLt_list]
  have e1 : PyData.eqv (.list (a.map .int)) (.list (b.map .int)) = decide (a = b) := by rw [PyData.eqv, eqv_ints]
  have e2 := dataLt_ints a b
  unfold rowLt at e2
  rw [e1, e2]
  by_cases h : a = b <;> simp [h]
theorem dlt_nil : PySem.W.rowLt [] [] = false := PySem.W.dataLt_ints [] []
end Lw
set_option Elab.async false
set_option linter.all false
set_option maxRecDepth 100000
set_option maxHeartbeats 4000000
/-! # Dicts: of ints to True, of ints, of texts -/
namespace Lw
open PySem PySem.Spec PyProof.Rows L2
/-! ### the dict of ints to True -/
def kvT (ks : List Int) : List (L2.Key × V) := ks.map fun i => ((Sum.inl i : L2.Key), V.bl true)
theorem kvT_val (ks : List Int) (i : Int) : valV (kvT ks) (Sum.inl i) = if i ∈ ks then some (V.bl true) else none := by
  induction ks with
  | nil => rfl
  | cons a l ih =>
    by_cases h : a = i
    · subst h
      rw [if_pos List.mem_cons_self]
      exact valV_pos rfl
    · have e : valV (kvT (a :: l)) (Sum.inl i) = valV (kvT l) (Sum.inl i) := valV_neg fun z => h (Sum.inl.inj z)
      rw [e, ih]
      by_cases h2 : i ∈ l
      · rw [if_pos h2, if_pos (List.mem_cons_of_mem _ h2)]
      · rw [if_neg h2, if_neg fun z => (List.mem_cons.mp z).elim (fun y => h y.symm) h2]
/-- i is there from now on -/
def addT (ks : List Int) (i : Int) : List Int := if i ∈ ks then ks else ks ++ [i]
def delT (ks : List Int) (i : Int) : List Int := ks.filter fun j => decide (j ≠ i)
theorem kvT_put (ks : List Int) (i : Int) : putK (kvT ks) (Sum.inl i) (V.bl true) = kvT (addT ks i) := by
  unfold putK addT
  by_cases h : i ∈ ks
  · have e : (kvT ks).any (fun kv => decide (kv.1 = Sum.inl i)) = true := by
      rw [List.any_eq_true]
      exact ⟨(Sum.inl i, V.bl true), List.mem_map.mpr ⟨i, h, rfl⟩, decide_eq_true rfl⟩
    rw [if_pos e, if_pos h]
    unfold kvT
    rw [List.map_map]
    refine List.map_congr_left fun j _ => ?_
    show (if (Sum.inl j : L2.Key) = Sum.inl i then ((Sum.inl j : L2.Key), V.bl true) else (Sum.inl j, V.bl true)) = _
    split <;> rfl
  · have e : ¬ (kvT ks).any (fun kv => decide (kv.1 = Sum.inl i)) = true := by
      rw [List.any_eq_true]
      rintro ⟨p, hp, hq⟩
      obtain ⟨j, hj, rfl⟩ := List.mem_map.mp hp
      have := of_decide_eq_true hq
      exact h (Sum.inl.inj this ▸ hj)
    rw [if_neg e, if_neg h]
    unfold kvT
    rw [List.map_append]
    rfl
theorem kvT_drop (ks : List Int) (i : Int) : dropK (kvT ks) (Sum.inl i) = kvT (delT ks i) := by
  unfold dropK delT kvT
  rw [List.filter_map]
  congr 1
  refine List.filter_congr fun j _ => ?_
  show decide ((Sum.inl j : L2.Key) ≠ Sum.inl i) = decide (j ≠ i)
  exact decide_eq_decide.mpr ⟨fun h z => h (by rw [z]), fun h z => h (Sum.inl.inj z)⟩
theorem addT_length (ks : List Int) (i : Int) : (addT ks i).length ≤ ks.length + 1 := by
  unfold addT
  split
  · exact Nat.le_succ _
  · rw [List.length_append]
    exact Nat.le_refl _
section
variable {TB : Tbs} {X : Cx} {env : List Sl} {a b e : Expr} {es : List Expr} {d x y : D} {ds xs : List D} {pos p : Pos} {rest : List Stmt} {R : Out → Prop}
/-- e in x, x of the def's own -/
theorem pcd_inS (i : Nat) {j : Int} {ks : List Int} {n : Str} {pn : Pos} (hi : env[i]? = some (Sl.o (.s ks))) (hu : X.A.units + 1 < cLine) (ha : PD TB X a env (.int j)) (hN : X.N[i]? = some n := by rfl) (hv : Vis X.env.scope n := by first | exact Or.inl rfl | exact Or.inr (Or.inl rfl) | exact Or.inr (Or.inr rfl))
    (hd : (n == ("__debug__" : Str)) = false := by decide) (hcd : (n == ("__classdict__" : Str)) = false := by decide) : PCd TB X .In a (.Name n pn) env (decide (j ∈ ks)) := fun w0 w σ Q k q =>
  runC (pc_din hu (pe_w a) (pe_var hN hv hd hcd)) (ha w0 w σ _ k fun v w1 g1 l1 r1 => by
    cases r1
    obtain ⟨p, h0, s, hp, hf, h0n, r⟩ := k.own i _ hi
    cases h0 <;> first | exact r.elim | skip
    rename_i kvs
    have r : kvs = kvT ks := r
    subst r
    have hp1 : w1.H p = some (.dK (kvT ks)) := l1.h p _ hp fun _ z => by cases z
    refine ⟨.ref p, s, p, _, rfl, DGet.k (k := Sum.inl j) hp1, ?_⟩
    rw [kvT_val]
    have := q w1 g1 l1
    by_cases h : j ∈ ks
    · rw [if_pos h]
      rw [decide_eq_true h] at this
      exact this
    · rw [if_neg h]
      rw [decide_eq_false h] at this
      exact this)
/-- x[e] = True -/
theorem sd_putS (i : Nat) {j : Int} {ks : List Int} {n : Str} {pn p1 p2 : Pos} {c : Nat} (hi : env[i]? = some (Sl.o (.s ks))) (hu : X.A.units + 1 < cLine) (hb : PD TB X b env (.int j)) (hl : ks.length < 1000) (q : SD TB X rest (env.set i (Sl.o (.s (addT ks j)))) R) (hN : X.N[i]? = some n := by rfl) (hv : Vis X.env.scope n := by first | exact Or.inl rfl | exact Or.inr (Or.inl rfl) | exact Or.inr (Or.inr rfl))
    (hd : (n == ("__debug__" : Str)) = false := by decide) (hcd : (n == ("__classdict__" : Str)) = false := by decide) (hs : swapsWith (.Constant (.bool true) c p2) (some (.Subscript (.Name n pn) b p1)) pos.line X.env = pure false := by rfl) :
    SD TB X (.Assign [.Subscript (.Name n pn) b p1] (.Constant (.bool true) c p2) pos :: rest) env R :=
  sd_cons fun w0 w σ D' k en => by
    obtain ⟨p, h0, s, hp, hf, h0n, r⟩ := k.own i _ hi
    cases h0 <;> first | exact r.elim | skip
    rename_i kvs
    have r : kvs = kvT ks := r
    subst r
    refine runS1 (ps_dput hu (pe_var hN hv hd hcd) (pe_w b) pe_bl hs) ⟨.ref p, s, hb w0 w σ _ k fun v w1 g1 l1 r1 => ?_⟩
    cases r1
    have hp1 : w1.H p = some (.dK (kvT ks)) := l1.h p _ hp fun _ z => by cases z
    refine ⟨p, _, rfl, DPut.k (k := Sum.inl j) hp1 (by unfold kvT; rw [List.length_map]; exact size_lt (by omega)), ?_⟩
    rw [kvT_put]
    exact en.nx ⟨w1.F, upd w1.H p (.dK (kvT (addT ks j)))⟩ _ _ ((k.mono g1 l1).chg (h := .dK (kvT (addT ks j))) (y := .s (addT ks j)) hi s rfl) l1.f q
/-- del x[e] -/
theorem sd_delS (i : Nat) {j : Int} {ks : List Int} {n : Str} {pn p1 : Pos} (hi : env[i]? = some (Sl.o (.s ks))) (hb : PD TB X b env (.int j)) (hj : j ∈ ks) (q : SD TB X rest (env.set i (Sl.o (.s (delT ks j)))) R) (hN : X.N[i]? = some n := by rfl) (hv : Vis X.env.scope n := by first | exact Or.inl rfl | exact Or.inr (Or.inl rfl) | exact Or.inr (Or.inr rfl))
    (hd : (n == ("__debug__" : Str)) = false := by decide) (hcd : (n == ("__classdict__" : Str)) = false := by decide) : SD TB X (.Delete [.Subscript (.Name n pn) b p1] pos :: rest) env R :=
  sd_cons fun w0 w σ D' k en => by
    obtain ⟨p, h0, s, hp, hf, h0n, r⟩ := k.own i _ hi
    cases h0 <;> first | exact r.elim | skip
    rename_i kvs
    have r : kvs = kvT ks := r
    subst r
    refine runS1 (ps_ddel (pe_var hN hv hd hcd) (pe_w b)) ⟨.ref p, s, hb w0 w σ _ k fun v w1 g1 l1 r1 => ?_⟩
    cases r1
    have hp1 : w1.H p = some (.dK (kvT ks)) := l1.h p _ hp fun _ z => by cases z
    refine ⟨p, _, Sum.inl j, rfl, hp1, rfl, by rw [kvT_val, if_pos hj]; rfl, ?_⟩
    rw [kvT_drop]
    exact en.nx ⟨w1.F, upd w1.H p (.dK (kvT (delT ks j)))⟩ _ _ ((k.mono g1 l1).chg (h := .dK (kvT (delT ks j))) (y := .s (delT ks j)) hi s rfl) l1.f q
theorem delT_out {ks : List Int} {j : Int} (h : j ∉ ks) : delT ks j = ks := List.filter_eq_self.mpr fun x hx => decide_eq_true fun z => h (z ▸ hx)
/-- x.pop(e, None) -/
theorem sd_popS (i : Nat) {j : Int} {ks : List Int} {n : Str} {pn p1 p2 p3 : Pos} {c : Nat} (hi : env[i]? = some (Sl.o (.s ks))) (hb : PD TB X b env (.int j)) (q : SD TB X rest (env.set i (Sl.o (.s (delT ks j)))) R) (m : M2 X (.Name n pn) "pop" p1 b (.Constant .none c p3) p2) (hN : X.N[i]? = some n := by rfl) (hv : Vis X.env.scope n := by first | exact Or.inl rfl | exact Or.inr (Or.inl rfl) | exact Or.inr (Or.inr rfl))
    (hd : (n == ("__debug__" : Str)) = false := by decide) (hcd : (n == ("__classdict__" : Str)) = false := by decide) (hs : swapsWith (.Call (.Attribute (.Name n pn) "pop" p1) [b, .Constant .none c p3] [] p2) none pos.line X.env = pure false := by rfl) :
    SD TB X (.Expr (.Call (.Attribute (.Name n pn) "pop" p1) [b, .Constant .none c p3] [] p2) pos :: rest) env R :=
  sd_cons fun w0 w σ D' k en => by
    obtain ⟨p, h0, s, hp, hf, h0n, r⟩ := k.own i _ hi
    cases h0 <;> first | exact r.elim | skip
    rename_i kvs
    have r : kvs = kvT ks := r
    subst r
    refine runS1 (ps_expr (pe_dpop2 (pe_var hN hv hd hcd) (pe_w b) pe_non m) hs) ⟨.ref p, s, p, rfl, .inl ⟨_, .inl hp⟩, hb w0 w σ _ k fun v w1 g1 l1 r1 => ?_⟩
    cases r1
    have hp1 : w1.H p = some (.dK (kvT ks)) := l1.h p _ hp fun _ z => by cases z
    refine ⟨kvT ks, Sum.inl j, hp1, rfl, fun v hv => ?_, fun hv => ?_⟩
    · rw [kvT_drop]
      exact en.nx ⟨w1.F, upd w1.H p (.dK (kvT (delT ks j)))⟩ _ _ ((k.mono g1 l1).chg (h := .dK (kvT (delT ks j))) (y := .s (delT ks j)) hi s rfl) l1.f q
    · have hj : j ∉ ks := fun z => by
        rw [kvT_val, if_pos z] at hv
        cases hv
      have e1 : env.set i (Sl.o (.s (delT ks j))) = env := by
        rw [delT_out hj]
        refine List.ext_getElem? fun t => ?_
        by_cases z : i = t
        · subst z
          rw [List.getElem?_set_self (List.getElem?_eq_some_iff.mp hi).1, hi]
        · rw [List.getElem?_set_ne z]
      rw [e1] at q
      exact en.nx w1 _ _ (k.mono g1 l1) l1.f q
/-! ### dicts that stand for ever -/
theorem rep_dic {K : PySem.W.Frag} {F : Hp} {v : V} {ks : List L2.Key} (r : Rep K F v (.dic ks xs)) : ∃ p kvs, v = .ref p ∧ F p = some (.dK kvs) ∧ kvs.map (·.1) = ks ∧ Reps K F (kvs.map (·.2)) xs := by
  cases r with
  | dic h1 h2 h3 => exact ⟨_, _, rfl, h1, h2, h3⟩
theorem valV_at : ∀ {kvs : List (L2.Key × V)} {i : Nat} {k : L2.Key} {v : V}, (kvs.map (·.1)).Nodup → (kvs.map (·.1))[i]? = some k → (kvs.map (·.2))[i]? = some v → valV kvs k = some v
  | [], _, _, _, _, h, _ => by simp at h
  | (m, u) :: l, 0, k, v, _, h1, h2 => by
    have e1 : m = k := Option.some.inj h1
    have e2 : u = v := Option.some.inj h2
    subst e1 e2
    exact valV_pos rfl
  | (m, u) :: l, i + 1, k, v, hn, h1, h2 => by
    rw [List.map_cons, List.nodup_cons] at hn
    have h1' : (l.map (·.1))[i]? = some k := h1
    have e : ¬ m = k := fun z => hn.1 (z ▸ List.mem_of_getElem? h1')
    rw [valV_neg e]
    exact valV_at hn.2 h1' h2
theorem valV_out : ∀ {kvs : List (L2.Key × V)} {k : L2.Key}, k ∉ kvs.map (·.1) → valV kvs k = none
  | [], _, _ => rfl
  | (m, u) :: l, k, h => by
    rw [List.map_cons, List.mem_cons, not_or] at h
    rw [valV_neg fun z => h.1 z.symm]
    exact valV_out h.2
/-- x[e] -/
theorem pd_dget (t : Nat) {ks : List L2.Key} {k : L2.Key} (hu : X.A.units + 1 < cLine) (ha : PD TB X a env (.dic ks xs)) (hb : PD TB X b env y) (hy : (∃ j, k = Sum.inl j ∧ y = .int j) ∨ ∃ z, k = Sum.inr z ∧ y = .str z) (hn : ks.Nodup) (h1 : ks[t]? = some k) (h2 : xs[t]? = some d) (hs : NoSl b := by exact fun _ _ => rfl) : PD TB X (.Subscript a b pos) env d := fun w0 w σ Q kk q =>
  runE (pe_dget hu (pe_w a) (pe_w b) hs) (ha w0 w σ _ kk fun v w1 g1 l1 r1 => hb w0 w1 σ _ (kk.mono g1 l1) fun u w2 g2 l2 r2 => by
    obtain ⟨p, kvs, rfl, hp, hk, hr⟩ := rep_dic (r1.mono l2.f)
    obtain ⟨v, e, r⟩ := hr.get h2
    subst hk
    have hv := valV_at hn h1 e
    rcases hy with ⟨j, rfl, rfl⟩ | ⟨z, rfl, rfl⟩
    · cases r2
      refine ⟨p, v, rfl, ?_, q v w2 g2 (l1.trans l2) r⟩
      rw [← hv]
      exact DGet.k (k := Sum.inl j) (g2.sub _ _ hp)
    · cases r2
      refine ⟨p, v, rfl, ?_, q v w2 g2 (l1.trans l2) r⟩
      rw [← hv]
      exact DGet.k (k := Sum.inr z) (g2.sub _ _ hp))
/-- e in x -/
theorem pcd_inD {ks : List L2.Key} {j : Int} (hu : X.A.units + 1 < cLine) (ha : PD TB X a env (.int j)) (hb : PD TB X b env (.dic ks xs)) (hn : ks.Nodup) (h1 : Sum.inl j ∈ ks) : PCd TB X .In a b env true := fun w0 w σ Q k q =>
  runC (pc_din hu (pe_w a) (pe_w b)) (ha w0 w σ _ k fun v w1 g1 l1 r1 => hb w0 w1 σ _ (k.mono g1 l1) fun u w2 g2 l2 r2 => by
    cases r1
    obtain ⟨p, kvs, rfl, hp, hk, hr⟩ := rep_dic r2
    subst hk
    obtain ⟨i, hi⟩ := List.mem_iff_getElem?.mp h1
    have hi2 : i < kvs.length := by
      have := (List.getElem?_eq_some_iff.mp hi).1
      rwa [List.length_map] at this
    have hv := valV_at hn hi (v := kvs[i].2) (by rw [List.getElem?_map, List.getElem?_eq_getElem hi2]; rfl)
    refine ⟨p, _, rfl, DGet.k (k := Sum.inl j) (g2.sub _ _ hp), ?_⟩
    rw [hv]
    exact q w2 g2 (l1.trans l2))
/-- sorted(x), a dict of ints -/
theorem pd_sortedD {ks ks' : List Int} (hm : X.mg "sorted" = none) (ha : PD TB X a env (.dic (ks.map Sum.inl) xs)) (hl : ks.length < 64) (hp : ks'.Perm ks) (hs : ks'.Pairwise (· ≤ ·)) (hc : X.calm = true := by rfl) (hg : Gl X "sorted" := by rfl) (he : starEach [a] X.env = (false, eval a X.env) :: starEach [] X.env := by rfl) (hpl : (backTo pos (starEach [] X.env)).any (·.1) = false := by rfl) :
    PD TB X (.Call (.Name "sorted" p) [a] [] pos) env (eIs ks') :=
  pd_callB (call_sortedDI hc) hm (by decide +kernel) (pds_cons ha pds_nil he) (fun vs w Q g r q => by
    cases r with
    | cons r1 r2 =>
      cases r2
      obtain ⟨p, kvs, rfl, h1, hk, hr⟩ := rep_dic r1
      refine ⟨p, kvs, ks, rfl, .inl (g.sub _ _ h1), hk, hl, fun l q' pl hl => ?_⟩
      have el : l = ks' := sorted_uniq (pl.trans hp.symm) hl hs
      subst el
      exact newL g (ints_reps l) q q') hg (by decide) (by decide) he hpl
/-! ### dicts of texts, of one's own -/
/-- x = {} -/
theorem sd_ownD (i : Nat) {n : Str} {p' p2 : Pos} (q : SD TB X rest (env.set i (Sl.o (.k [] []))) R) (nd : X.N.Nodup) (hi : X.N[i]? = some n := by rfl) (hx : Loc X.env.scope n := by first | exact Or.inl rfl | exact Or.inr rfl)
    (hs : swapsWith (.Dict [] [] p2) (some (.Name n p')) pos.line X.env = pure false := by rfl) (hf : X.fn n = true ∨ X.env.scope.names.lookup n = some .local := by first | exact .inl rfl | exact .inr rfl) : SD TB X (.Assign [.Name n p'] (.Dict [] [] p2) pos :: rest) env R :=
  sd_cons fun w0 w σ D' k en => runS1 (ps_set nd hi hx pe_dnewK hs hf) fun q' hq => en.nx ⟨w.F, upd w.H q' (.dK [])⟩ _ _ (k.lay hq (show OOk X.K w.F q' (.dK []) (.k [] []) from ⟨rfl, Reps.nil⟩)) (FLe.refl _) q
/-- x = dict(e) -/
theorem sd_dictOwn (i : Nat) {ks : List L2.Key} {n : Str} {p' p1 p2 : Pos} (ha : PD TB X a env (.dic ks xs)) (hm : X.mg "dict" = none) (q : SD TB X rest (env.set i (Sl.o (.k ks xs))) R) (nd : X.N.Nodup) (hi : X.N[i]? = some n := by rfl) (hx : Loc X.env.scope n := by first | exact Or.inl rfl | exact Or.inr rfl)
    (hg : Gl X "dict" := by rfl) (he : starEach [a] X.env = (false, eval a X.env) :: starEach [] X.env := by rfl) (hpl : (backTo p2 (starEach [] X.env)).any (·.1) = false := by rfl)
    (hs : swapsWith (.Call (.Name "dict" p1) [a] [] p2) (some (.Name n p')) pos.line X.env = pure false := by rfl) (hf : X.fn n = true ∨ X.env.scope.names.lookup n = some .local := by first | exact .inl rfl | exact .inr rfl) :
    SD TB X (.Assign [.Name n p'] (.Call (.Name "dict" p1) [a] [] p2) pos :: rest) env R :=
  sd_cons fun w0 w σ D' k en => runS1 (ps_set nd hi hx (pe_callTy call_dictD hg hm (by decide +kernel) (pa_w _) (by decide) (by decide) he hpl) hs hf) (pds_cons ha pds_nil he w0 w σ _ k fun vs w1 g1 l1 r1 => by
    cases r1 with
    | cons r1 r2 =>
      cases r2
      obtain ⟨p, kvs, rfl, hp, hk, hr⟩ := rep_dic r1
      exact ⟨p, kvs, rfl, .inl (g1.sub _ _ hp), fun q' hq => en.nx ⟨w1.F, upd w1.H q' (.dK kvs)⟩ _ _ ((k.mono g1 l1).lay hq (show OOk X.K w1.F q' (.dK kvs) (.k ks xs) from ⟨hk, hr⟩)) l1.f q⟩)
/-- x["..."] = e where x holds at most that one key -/
theorem sd_putK (i : Nat) {ks : List L2.Key} {z : Str} {n : Str} {pn p1 : Pos} (hi : env[i]? = some (Sl.o (.k ks xs))) (hk1 : ks = [] ∨ ks = [Sum.inr z]) (hu : X.A.units + 1 < cLine) (he : PD TB X e env d) (hb : PD TB X b env (.str z)) (q : SD TB X rest (env.set i (Sl.o (.k [Sum.inr z] [d]))) R) (hN : X.N[i]? = some n := by rfl) (hv : Vis X.env.scope n := by first | exact Or.inl rfl | exact Or.inr (Or.inl rfl) | exact Or.inr (Or.inr rfl))
    (hd : (n == ("__debug__" : Str)) = false := by decide) (hcd : (n == ("__classdict__" : Str)) = false := by decide) (hs : swapsWith e (some (.Subscript (.Name n pn) b p1)) pos.line X.env = pure false := by rfl) :
    SD TB X (.Assign [.Subscript (.Name n pn) b p1] e pos :: rest) env R :=
  sd_cons fun w0 w σ D' k en => by
    obtain ⟨p, h0, s, hp, hf, h0n, r⟩ := k.own i _ hi
    cases h0 <;> first | exact r.elim | skip
    rename_i kvs
    obtain ⟨hk, hr⟩ : (kvs.map fun q : L2.Key × V => q.1) = ks ∧ Reps X.K w.F (kvs.map fun q : L2.Key × V => q.2) xs := r
    refine runS1 (ps_dput hu (pe_var hN hv hd hcd) (pe_w b) (pe_w e) hs) (he w0 w σ _ k fun v w1 g1 l1 r1 => ⟨.ref p, s, hb w0 w1 σ _ (k.mono g1 l1) fun u w2 g2 l2 r2 => ?_⟩)
    cases r2
    have hp2 : w2.H p = some (.dK kvs) := l2.h p _ (l1.h p _ hp fun _ z => by cases z) fun _ z => by cases z
    have hlen : kvs.length ≤ 1 := by
      have := congrArg List.length hk
      rw [List.length_map] at this
      rcases hk1 with h | h <;> rw [h] at this <;> simp only [List.length_nil, List.length_cons] at this <;> omega
    have eput : putK kvs (Sum.inr z) v = [(Sum.inr z, v)] := by
      match kvs, hlen, hk with
      | [], _, _ => rfl
      | [(m, u)], _, hk =>
        rcases hk1 with h | h
        · rw [h] at hk
          cases hk
        · rw [h] at hk
          have : m = Sum.inr z := by
            injection hk
          subst this
          simp [putK]
    refine ⟨p, _, rfl, DPut.k (k := Sum.inr z) hp2 (size_lt (by omega)), ?_⟩
    rw [eput]
    exact en.nx ⟨w2.F, upd w2.H p (.dK [(Sum.inr z, v)])⟩ _ _ (((k.mono g1 l1).mono g2 l2).chg (h := .dK [(Sum.inr z, v)]) (y := .k [Sum.inr z] [d]) hi s ⟨rfl, .cons (r1.mono l2.f) .nil⟩) (l1.f.trans l2.f) q
end
end Lw
set_option Elab.async false
set_option linter.all false
set_option maxRecDepth 100000
set_option maxHeartbeats 4000000
/-! # Dict comprehensions -/
namespace Lw
open PySem PySem.Spec PyProof.Rows L2
section
variable {TB : Tbs} {X : Cx} {env : List Sl} {a b e kx vx tg iter : Expr} {d x y : D} {ds xs : List D} {pos p : Pos} {rest : List Stmt} {R : Out → Prop} {scope : Scope}
/-- a thing that is there becomes one of the def's own -/
theorem Ok.put {K : PySem.W.Frag} {w0 w : Wd} {σ : L2.St} (k : Ok K TB w0 w σ env) {i : Nat} {p : Addr} {h : HO} {z : OO} (hp : w.H p = some h) (hf : w.F p = none) (h0 : ∀ o, w0.H p = some o → ∃ ps, o = .tbl ps) (other : ∀ (j : Nat) (u : OO), env[j]? = some (Sl.o u) → σ[j]? ≠ some (some (V.ref p))) (r : OOk K w.F p h z) :
    Ok K TB w0 w (σ.set i (some (V.ref p))) (env.set i (Sl.o z)) := by
  have slot : ∀ c u, (env.set i (Sl.o z))[c]? = some u → i = c → (σ.set i (some (V.ref p)))[c]? = some (some (V.ref p)) := fun c u q e => by
    subst e
    refine List.getElem?_set_self ?_
    rw [← k.len]
    have := (List.getElem?_eq_some_iff.mp q).1
    rw [List.length_set] at this
    exact this
  refine ⟨k.good, k.le, by rw [List.length_set, List.length_set, k.len], fun j u q => ?_, fun j u q => ?_, fun s t u v q ne e1 e2 => ?_⟩
  · rcases get_set q with ⟨rfl, h1⟩ | ⟨ne, h1⟩
    · cases h1
    · rw [List.getElem?_set_ne ne]
      exact k.dat j u h1
  · rcases get_set q with ⟨rfl, h1⟩ | ⟨ne, h1⟩
    · cases h1
      exact ⟨p, h, slot _ _ q rfl, hp, hf, h0, r⟩
    · rw [List.getElem?_set_ne ne]
      exact k.own j u h1
  · rcases get_set e1 with ⟨rfl, h1⟩ | ⟨n1, h1⟩
    · rcases get_set e2 with ⟨rfl, h2⟩ | ⟨n2, h2⟩
      · exact absurd rfl ne
      · rw [slot _ _ e1 rfl, List.getElem?_set_ne n2]
        intro s1 s2
        cases s1
        exact other t v h2 s2
    · rcases get_set e2 with ⟨rfl, h2⟩ | ⟨n2, h2⟩
      · rw [slot _ _ e2 rfl, List.getElem?_set_ne n1]
        intro s1 s2
        cases s2
        exact other s u h1 s1
      · rw [List.getElem?_set_ne n1, List.getElem?_set_ne n2]
        exact k.sep s t u v q ne h1 h2
/-- the dict in the making -/
structure DcAt (K : PySem.W.Frag) (TB : Tbs) (w1 : Wd) (Dl : Addr) (ks : List L2.Key) (acc : List D) (w : Wd) : Prop where
  good : Good TB w
  le : Le w1 w
  h : ∃ kvs, w.H Dl = some (.dK kvs) ∧ kvs.map (·.1) = ks ∧ Reps K w.F (kvs.map (·.2)) acc
  f : w.F Dl = none
theorem DcAt.mono {K : PySem.W.Frag} {w1 w w' : Wd} {Dl : Addr} {ks : List L2.Key} {acc : List D} (q : DcAt K TB w1 Dl ks acc w) (g : Good TB w') (l : Le w w') : DcAt K TB w1 Dl ks acc w' := by
  obtain ⟨kvs, h1, h2, h3⟩ := q.h
  exact ⟨g, q.le.trans l, ⟨kvs, l.h _ _ h1 (fun _ z => by cases z), h2, h3.mono l.f⟩, (l.n _ _ h1 (fun _ z => by cases z)).trans q.f⟩
theorem tabs_updD {H : Hp} {p : Addr} {kvs : List (L2.Key × V)} {o : HO} (t : LamX.Tabs TB H) (h : H p = some (.dK kvs)) : LamX.Tabs TB (upd H p o) := fun q hq => by
  obtain ⟨ps, a1, a2, a3⟩ := t q hq
  refine ⟨ps, by rw [upd_ne fun z => by rw [z, h] at a1; cases a1]; exact a1, a2, fun pos cv hc => ?_⟩
  obtain ⟨c, e1, e2⟩ := a3 pos cv hc
  refine ⟨c, e1, ?_⟩
  rw [upd_ne fun z => ?_]
  · exact e2
  · rw [z, h] at e2
    unfold LamX.CodeO at e2
    cases e2
theorem putK_new {kvs : List (L2.Key × V)} {k : L2.Key} {v : V} (h : k ∉ kvs.map (·.1)) : putK kvs k v = kvs ++ [(k, v)] := by
  unfold putK
  rw [if_neg]
  rw [List.any_eq_true]
  rintro ⟨q, hq, e⟩
  exact h (List.mem_map.mpr ⟨q, hq, of_decide_eq_true e⟩)
/-- one turn -/
structure DcTurn (TB : Tbs) (X : Cx) (scope : Scope) (tg kx vx : Expr) (vs : List Nat) (l : List Sl) (d : D) (k : Int) (y : D) : Prop where
  ex : ∃ l' is, (∀ i ∈ is, i ∈ vs) ∧ (∀ (s : Shared) (H : Hp) (C : Addr) (cl : List (Str × Addr)) (fp : List Addr), PGd TB (Blk X scope s H C cl fp) tg l d l' is) ∧
    (∀ (s : Shared) (H : Hp) (C : Addr) (cl : List (Str × Addr)) (fp : List Addr), PD TB (Blk X scope s H C cl fp) kx l' (.int k)) ∧
    (∀ (s : Shared) (H : Hp) (C : Addr) (cl : List (Str × Addr)) (fp : List Addr), PD TB (Blk X scope s H C cl fp) vx l' y)
theorem dc_read {α : Type} {vs : List Nat} {w0 w1 : Wd} {σ : L2.St} {J : It} {QD : Addr → Hp → Prop} (src : List α) (enc : α → D) (kf : α → Int) (vf : α → D) (k : Ok X.K TB w0 w1 σ env) (it : ItOk X.K TB J w1 (src.map enc)) (hl : src.length ≤ 90000) (hn : (src.map kf).Nodup)
    (turn : ∀ a ∈ src, DcTurn TB X scope tg kx vx vs (wipeS env vs) (enc a) (kf a) (vf a)) (q : ∀ Dl w', w1.H Dl = none → DcAt X.K TB w1 Dl (src.map fun a => Sum.inl (kf a)) (src.map vf) w' → QD Dl w'.H) :
    ∀ Dl, w1.H Dl = none → ∃ W : Nat → Nat → Hp → Prop, (∃ m, W 0 m (upd w1.H Dl (.dK []))) ∧ ∀ i m H, W i m H →
      (J.stop i H ∧ QD Dl H) ∨ (J.go i H ∧ ∃ Nx : Hp → Prop, (∀ H', Nx H' → ∃ m', m' < m ∧ W (i + 1) m' H') ∧ ∀ x H', J.yld i H x H' → wGb X scope tg x (wipe σ vs) H' fun σ2 H2 => wipe σ2 vs = wipe σ vs ∧ tYes σ2 H2 fun b H3 =>
        if b = true then wEb X scope kx σ2 H3 fun y H4 => wEb X scope vx σ2 H4 fun z H5 => ∃ kvs k, y = kV k ∧ H5 Dl = some (.dK kvs) ∧ kvs.length < sizeLine ∧ Nx (upd H5 Dl (.dK (putK kvs k z))) else Nx H3) := by
  intro Dl hD
  have hF := k.good.fresh hD
  refine ⟨fun i m H => m = src.length - i ∧ i ≤ src.length ∧ ∃ w, w.H = H ∧ DcAt X.K TB w1 Dl ((src.take i).map fun a => Sum.inl (kf a)) ((src.take i).map vf) w, ⟨src.length, by simp, Nat.zero_le _, ⟨w1.F, upd w1.H Dl (.dK [])⟩, rfl, ⟨k.good.own hF (tabs_new k.good.tb hD), Le.own hD, ⟨[], upd_same, by simp, by simpa using (Reps.nil : Reps X.K w1.F [] [])⟩, hF⟩⟩, ?_⟩
  rintro i m H ⟨rfl, hle, w, rfl, s1⟩
  by_cases hlt : i < src.length
  · obtain ⟨go, yl⟩ := it.1 i w s1.good s1.le.f (by rw [List.length_map]; exact hlt)
    refine .inr ⟨go, fun H' => i + 1 ≤ src.length ∧ ∃ w, w.H = H' ∧ DcAt X.K TB w1 Dl ((src.take (i + 1)).map fun a => Sum.inl (kf a)) ((src.take (i + 1)).map vf) w, fun H' ⟨a, b⟩ => ⟨src.length - (i + 1), by omega, rfl, a, b⟩, fun v H2 yy s H' C cl fp => ?_⟩
    obtain ⟨w2, rfl, g2, l2, r2⟩ := yl v H2 yy
    have hm : src[i] ∈ src := List.getElem_mem hlt
    obtain ⟨l', is, hsub, hg, hk, he⟩ := (turn src[i] hm).ex
    have s2 := s1.mono g2 l2
    refine hg s H' C cl fp w0 w2 (wipe σ vs) v _ ((wipe_ok k vs).mono g2 (s1.le.trans l2)) (r2 (enc src[i]) (by rw [List.getElem?_map, List.getElem?_eq_getElem hlt]; rfl)) ?_
    intro σ2 k2 t2
    refine ⟨?_, ?_⟩
    · rw [wipe_sets t2 hsub, wipe_wipe]
    · unfold tYes
      refine Eq.mpr (if_pos rfl) ?_
      intro s3 H3 C3 cl3 fp3
      refine hk s3 H3 C3 cl3 fp3 w0 w2 σ2 _ k2 fun v3 w3 g3 l3 r3 => ?_
      cases r3
      intro s4 H4 C4 cl4 fp4
      refine he s4 H4 C4 cl4 fp4 w0 w3 σ2 _ (k2.mono g3 l3) fun v4 w4 g4 l4 r4 => ?_
      have s4' := s2.mono g4 (l3.trans l4)
      obtain ⟨kvs, h1, h2, h3⟩ := s4'.h
      have hlen : kvs.length = i := by
        have := congrArg List.length h2
        rw [List.length_map, List.length_map, List.length_take] at this
        omega
      have hnew : Sum.inl (kf src[i]) ∉ kvs.map (·.1) := by
        rw [h2]
        intro z
        obtain ⟨b, hb, e⟩ := List.mem_map.mp z
        have e : kf b = kf src[i] := by injection e
        obtain ⟨j, hj⟩ := List.mem_iff_getElem?.mp hb
        have hji : j < i := by
          have := (List.getElem?_eq_some_iff.mp hj).1
          rw [List.length_take] at this
          omega
        rw [List.getElem?_take_of_lt hji] at hj
        have hjl := (List.getElem?_eq_some_iff.mp hj).1
        have p1 : (src.map kf)[j]? = some (kf b) := by rw [List.getElem?_map, hj]; rfl
        have p2 : (src.map kf)[i]? = some (kf b) := by rw [List.getElem?_map, List.getElem?_eq_getElem hlt, e]; rfl
        have := (List.getElem?_inj (l := src.map kf) (i := j) (j := i) (by rw [List.length_map]; omega) hn).mp (p1.trans p2.symm)
        omega
      refine ⟨kvs, Sum.inl (kf src[i]), rfl, h1, size_lt (by omega), hlt, ⟨w4.F, upd w4.H Dl (.dK (putK kvs (Sum.inl (kf src[i])) v4))⟩, rfl, ⟨s4'.good.own s4'.f (tabs_updD s4'.good.tb h1), ⟨s4'.le.f, fun x o e n => ?_, s4'.le.n⟩, ⟨_, upd_same, ?_, ?_⟩, s4'.f⟩⟩
      · show upd w4.H Dl _ x = some o
        rw [upd_ne (ne_of_none e hD)]
        exact s4'.le.h x o e n
      · rw [putK_new hnew, List.map_append, h2, List.take_add_one, List.getElem?_eq_getElem hlt, List.map_append]
        rfl
      · rw [putK_new hnew, List.map_append, List.take_add_one, List.getElem?_eq_getElem hlt, List.map_append]
        exact h3.append (.cons r4 .nil)
  · have e : i = src.length := by omega
    subst e
    rw [List.take_length] at s1
    have := q Dl w hD s1
    exact .inl ⟨by have := it.2 w s1.good s1.le.f; rwa [List.length_map] at this, this⟩
/-- {k: v for tg in iter}, as a value that stands for ever -/
theorem pd_dc {α : Type} (own : List (Str × Nat)) (src : List α) (enc : α → D) (kf : α → Int) (vf : α → D) (hi : PId TB X tg iter env (src.map enc)) (hl : src.length ≤ 90000) (hn : (src.map kf).Nodup)
    (turn : ∀ a ∈ src, DcTurn TB X scope tg kx vx (own.map (·.2)) (wipeS env (own.map (·.2))) (enc a) (kf a) (vf a)) (nd : X.N.Nodup) (ok : BlkOk X.N X.env.scope scope own) (hc : X.calm = true := by rfl) (hs : ∀ x, foldedSetIterable iter X.env x = pure x := by intro _; rfl) :
    PD TB X (.DictComp kx vx [⟨tg, iter, [], 0⟩] scope pos) env (.dic (src.map fun a => Sum.inl (kf a)) (src.map vf)) := fun w0 w σ Q k q pins s I => by
  refine runE (pe_dc hc nd (pi_w tg iter) ok (pg_wb tg) (fun _ _ _ _ _ => pts_nil) (pe_wb kx) (pe_wb vx) hs) ?_ pins s I
  refine hi w0 w σ _ k fun J w1 g1 l1 it => ?_
  refine dc_read (QD := fun Dl H => Q (.ref Dl) H) src enc kf vf (k.mono g1 l1) it hl hn turn fun Dl w' hD c => ?_
  obtain ⟨kvs, h1, h2, h3⟩ := c.h
  have fl : FLe w'.F (upd w'.F Dl (.dK kvs)) := FLe.new c.f
  refine q (.ref Dl) ⟨upd w'.F Dl (.dK kvs), w'.H⟩ ⟨fun x o e => ?_, fun x ps e => ?_, c.good.tb⟩ (l1.trans ⟨c.le.f.trans fl, c.le.h, fun x o e n => ?_⟩) (.dic upd_same h2 (h3.mono fl))
  · have e' : upd w'.F Dl (.dK kvs) x = some o := e
    by_cases z : x = Dl
    · subst z
      rw [upd_same] at e'
      cases e'
      exact h1
    · rw [upd_ne z] at e'
      exact c.good.sub x o e'
  · have e' : upd w'.F Dl (.dK kvs) x = some (.tbl ps) := e
    by_cases z : x = Dl
    · subst z
      rw [upd_same] at e'
      cases e'
    · rw [upd_ne z] at e'
      exact c.good.nt x ps e'
  · show upd w'.F Dl (.dK kvs) x = w1.F x
    rw [upd_ne (ne_of_none e hD)]
    exact c.le.n x o e n
/-- x = {k: v for ..} on one line -/
theorem ps_setDc {i : Nat} {n : Str} {py : Pos} {ifs : List Expr} {own : List (Str × Nat)} {spos : Pos} {wi : TI} {g : TG} {tt : TT} {tk tv : TE} (hc : X.calm = true) (hN : X.N.Nodup) (hy : X.N[i]? = some n) (hyl : X.env.scope.names.lookup n = some .local)
    (hsw : swapsWith (.DictComp kx vx [⟨tg, iter, ifs, 0⟩] scope pos) (some (.Name n py)) spos.line X.env = pure true) (hi : PI X tg iter wi) (ok : BlkOk X.N X.env.scope scope own)
    (hg : ∀ (s : Shared) (H : Hp) (C : Addr) (cl : List (Str × Addr)) (fp : List Addr), PG (Blk X scope s H C cl fp) tg g) (ht : ∀ (s : Shared) (H : Hp) (C : Addr) (cl : List (Str × Addr)) (fp : List Addr), PTs (Blk X scope s H C cl fp) ifs tt)
    (hk : ∀ (s : Shared) (H : Hp) (C : Addr) (cl : List (Str × Addr)) (fp : List Addr), PE (Blk X scope s H C cl fp) kx tk) (he : ∀ (s : Shared) (H : Hp) (C : Addr) (cl : List (Str × Addr)) (fp : List Addr), PE (Blk X scope s H C cl fp) vx tv) (hs : ∀ x, foldedSetIterable iter X.env x = pure x := by intro _; rfl) :
    PS X (.Assign [.Name n py] (.DictComp kx vx [⟨tg, iter, ifs, 0⟩] scope pos) spos) (tAsg (tDc wi g tt tk tv (own.map (·.2))) (gName i)) := by
  refine ⟨fun pins s σ H D' I q => ?_⟩
  rw [exec_Assign_Name_used _ _ _ _ hsw]
  refine wpAny_bind (wpAny_standAt (wpAny_bind ?_))
  show wpAny _ X.A (do let _ ← comprehension (.DictComp kx vx [⟨tg, iter, ifs, 0⟩] scope pos) scope X.env (firstIterPos [⟨tg, iter, ifs, 0⟩] pos) newDict false (eval iter X.env) (some (assign (.Name n py) X.env))) _ _ s
  have q : tDc wi g tt tk tv (own.map (·.2)) σ H (fun x H1 => gName i x σ H1 D'.nx) := q
  refine wpAny_bind (thn (dc_core (Qf := fun _ s2 => SP X pins D' .next s2) hc hN I hi ok hg ht hk he hs q fun L C s2 m H2 I2 q2 hn2 fp2 => ?_) fun _ s2 hq => wpAny_pure (wpAny_pure hq))
  show wpAny _ _ (assign (.Name n py) X.env (.ref L)) _ _ _
  refine wpAny_assign_Name (store_ok2 (v := V.ref L) I2 hN hy (.inl hyl) rfl (fun s3 I3 ⟨b, sb, hb⟩ => ?_) (.inr hyl))
  obtain ⟨f0, f1, f2, f3, f4, f5⟩ := fp2
  have hne : C ≠ b := by
    rcases hb with z | z
    · rw [z]; exact f1
    · exact fun e => f4 n b z e.symm
  refine ⟨m, hn2.sameBut sb hne, fun h3 sb3 => ?_⟩
  exact ⟨_, H2, I3.turned (t' := s3.toks) (fun c o hbb e => (sb3.2 c hbb).trans e) f0 f1 f3 f4 f5, q2⟩
/-- x = {k: True for ..} on one line, x of the def's own -/
theorem sd_setDcT {α : Type} (i : Nat) {n : Str} {py spos : Pos} (own : List (Str × Nat)) (src : List α) (enc : α → D) (kf : α → Int) (hi : PId TB X tg iter env (src.map enc)) (hl : src.length ≤ 90000) (hn : (src.map kf).Nodup)
    (turn : ∀ a ∈ src, DcTurn TB X scope tg kx vx (own.map (·.2)) (wipeS env (own.map (·.2))) (enc a) (kf a) (.bl true)) (q : SD TB X rest (env.set i (Sl.o (.s (src.map kf)))) R) (nd : X.N.Nodup) (ok : BlkOk X.N X.env.scope scope own) (hsw : swapsWith (.DictComp kx vx [⟨tg, iter, [], 0⟩] scope pos) (some (.Name n py)) spos.line X.env = pure true := by rfl)
    (hN : X.N[i]? = some n := by rfl) (hx : X.env.scope.names.lookup n = some .local := by rfl) (hc : X.calm = true := by rfl) (hs : ∀ x, foldedSetIterable iter X.env x = pure x := by intro _; rfl) :
    SD TB X (.Assign [.Name n py] (.DictComp kx vx [⟨tg, iter, [], 0⟩] scope pos) spos :: rest) env R :=
  sd_cons fun w0 w σ D' k en pins s I => by
    refine runS1 (ps_setDc hc nd hN hx hsw (pi_w tg iter) ok (pg_wb tg) (fun _ _ _ _ _ => pts_nil) (pe_wb kx) (pe_wb vx) hs) ?_ pins s I
    refine hi w0 w σ _ k fun J w1 g1 l1 it => ?_
    refine dc_read (QD := fun Dl H => D'.nx (σ.set i (some (.ref Dl))) H) src enc kf (fun _ => .bl true) (k.mono g1 l1) it hl hn turn fun Dl w' hD c => ?_
    obtain ⟨kvs, h1, h2, h3⟩ := c.h
    have k1 := k.mono g1 l1
    have ekv : kvs = kvT (src.map kf) := by
      have gen : ∀ (kvs : List (L2.Key × V)) (l : List α), kvs.map (·.1) = l.map (fun a => Sum.inl (kf a)) → Reps X.K w'.F (kvs.map (·.2)) (l.map fun _ => .bl true) → kvs = kvT (l.map kf) := by
        intro kvs
        induction kvs with
        | nil => intro l e _; cases l with
          | nil => rfl
          | cons _ _ => cases e
        | cons a kvs ih =>
          intro l e r
          cases l with
          | nil => cases e
          | cons b l =>
            obtain ⟨m, u⟩ := a
            rw [List.map_cons, List.map_cons] at e r
            injection e with e1 e2
            cases r with
            | cons r1 r2 =>
              have e1 : m = Sum.inl (kf b) := e1
              have r1 : Rep X.K w'.F u (.bl true) := r1
              cases r1
              subst e1
              rw [ih l e2 r2]
              rfl
      exact gen kvs src h2 h3
    subst ekv
    have k2 := k1.mono c.good c.le
    refine en.nx w' _ _ (k2.put (z := .s (src.map kf)) h1 c.f (fun o e => ?_) (fun j u e e2 => ?_) rfl) (l1.f.trans c.le.f) q
    · cases o with
      | tbl ps => exact ⟨ps, rfl⟩
      | _ =>
        have z := k1.le.h Dl _ e (fun ps z => by cases z)
        rw [hD] at z
        cases z
    · obtain ⟨p2, h2', s2, hp2, _⟩ := k1.own j u e
      rw [e2] at s2
      cases s2
      rw [hD] at hp2
      cases hp2
end
end Lw
set_option Elab.async false
set_option linter.all false
set_option maxRecDepth 100000
set_option maxHeartbeats 4000000
/-! # try, tables of the module, lists of the module, methods of text -/
namespace Lw
open PySem PySem.Spec PyProof.Rows L2
section
variable {TB : Tbs} {X : Cx} {env : List Sl} {a b c e tg : Expr} {es : List Expr} {d d1 d2 d3 x y z : D} {ds xs ys : List D} {pos p : Pos} {t : Bool} {body rest : List Stmt} {R : Out → Prop}
/-- try: body / except ..: where the body raises nothing -/
theorem sd_try {h0 : ExceptHandler} {hs : List ExceptHandler} (q : SD TB X body env (Sq TB X rest R)) (hn : ∀ e s, ¬ X.xe e s := by intro _ _ h; exact h) : SD TB X (.Try body (h0 :: hs) [] [] pos :: rest) env R :=
  sd_cons fun w0 w σ D' k en => runS1 (ps_try_never hn (pss_w body) pss_nil) (q w0 w σ D' k en)
theorem ix_kd {d : Addr} {es : Array DictEntry} {n : Nat} (Dd : KDict X.K X.w d es n) : IxR X (fun x y H Q => ∃ (z : Str) (u0 : Value) (v0 : V), x = .ref d ∧ y = .str z ∧ PySem.W.nsIn X.K d z = some (some u0) ∧ RelV v0 u0 ∧ Q v0 H) := by
  intro value slice pins s σ H x y v u Q I rx ry h hs
  obtain ⟨z, u0, v0, rfl, rfl, e, r, q⟩ := h
  cases rx
  obtain ⟨t, rfl⟩ := ry
  exact subscriptTail_builtinR (x := u0) (kd_type Dd I) PySem.F.slot_dict_getitem.lookup
    (wpAny_getItem_of (PySem.strKind_is X.prog X.w z t) (PySem.W.mapOf_K (prog := X.prog) I.kIn Dd.at_ Dd.lit) (PySem.W.find_K Dd.at_ e) ⟨rfl, ⟨v0, H, I.tok _, r, q⟩⟩) hs
/-- a key of a table of the module -/
theorem pd_kd {n : Str} {pn : Pos} {z : Str} {i : Int} {kvs : List (Str × Int)} (h : KdAt X.w X.K X.mg n kvs) (hb : PD TB X b env (.str z)) (hz : (z, i) ∈ kvs) (hg : Gl X n := by rfl) (hd : (n == ("__debug__" : Str)) = false := by decide) (hs : PlainIx b := by exact fun _ _ => rfl) : PD TB X (.Subscript (.Name n pn) b pos) env (.int i) := fun w0 w σ Q k q => by
  obtain ⟨dd, es, m, hm, Dd, hv⟩ := h.ex
  obtain ⟨u, e1, e2⟩ := hv _ hz
  exact runE (pe_ix (ix_kd Dd) (pe_glob (v := .ref dd) hg hm rfl hd) (pe_w b) hs) (hb w0 w σ _ k fun v w1 g1 l1 r1 => by
    cases r1
    exact ⟨z, u, .int i, rfl, rfl, e1, e2, q _ w1 g1 l1 .int⟩)
theorem pcd_ninKd {n : Str} {pn : Pos} {z : Str} {i : Int} {kvs : List (Str × Int)} (h : KdAt X.w X.K X.mg n kvs) (ha : PD TB X a env (.str z)) (hz : (z, i) ∈ kvs) (hg : Gl X n := by rfl) (hd : (n == ("__debug__" : Str)) = false := by decide) : PCd TB X .NotIn a (.Name n pn) env false := fun w0 w σ Q k q => by
  obtain ⟨dd, es, m, hm, Dd, hv⟩ := h.ex
  obtain ⟨u, e1, e2⟩ := hv _ hz
  exact runC (pc_op (op_notIn_kd Dd) (pe_w a) (pe_glob (v := .ref dd) hg hm rfl hd)) (ha w0 w σ _ k fun v w1 g1 l1 r1 => by
    cases r1
    exact ⟨z, _, rfl, rfl, e1, q w1 g1 l1⟩)
theorem inV_strs (z : Str) : ∀ zs : List Str, inV (.str z) (zs.map V.str) = decide (z ∈ zs)
  | [] => rfl
  | y :: zs => by
    have h1 : eqV (.str y) (.str z) = decide (y = z) := by
      show (y == z) = _
      by_cases h : y = z
      · rw [h]; simp
      · rw [decide_eq_false h]; exact beq_eq_false_iff_ne.mpr h
    show (eqV (.str y) (.str z) || inV (.str z) (zs.map V.str)) = _
    rw [h1, inV_strs z zs]
    by_cases h : y = z
    · subst h
      simp
    · have h2 : ¬ z = y := fun e => h e.symm
      simp [h, h2]
theorem pcd_inGL {n : Str} {pn : Pos} {z : Str} {zs : List Str} (h : LstAt X.K X.mg n (zs.map V.str)) (ha : PD TB X a env (.str z)) (hg : Gl X n := by rfl) (hd : (n == ("__debug__" : Str)) = false := by decide) : PCd TB X .In a (.Name n pn) env (decide (z ∈ zs)) := fun w0 w σ Q k q => by
  obtain ⟨dd, hm, hv⟩ := h.ex
  have hf : (zs.map V.str).all flatV = true := List.all_eq_true.mpr fun v hv => by
    obtain ⟨y, _, rfl⟩ := List.mem_map.mp hv
    rfl
  have hin : inV (.str z) (zs.map V.str) = decide (z ∈ zs) := by
    exact inV_strs z zs
  exact runC (pc_op op_in_seq (pe_w a) (pe_glob (v := .ref dd) hg hm rfl hd)) (ha w0 w σ _ k fun v w1 g1 l1 r1 => by
    cases r1
    refine ⟨dd, _, rfl, .inl (hv _), rfl, hf, ?_⟩
    show Q (.bl (inV (.str z) (zs.map V.str))) _
    rw [hin]
    exact q w1 g1 l1)
/-- two lists of different lengths -/
theorem op_eqLen (hu : X.A.units < cLine) : OpR X (compareOp .Eq) (fun x y H Q => ∃ p q xs ys, x = .ref p ∧ y = .ref q ∧ SqL X.K H p xs ∧ SqL X.K H q ys ∧ xs.length ≠ ys.length ∧ Q (.bl false) H) := by
  intro pins s σ H x y v u Q I rx ry h
  obtain ⟨p, q, xs, ys, rfl, rfl, h1, h2, hn, h3⟩ := h
  cases rx
  cases ry
  obtain ⟨i1, r1, p1, z1⟩ := I.list h1
  obtain ⟨i2, r2, p2, z2⟩ := I.list h2
  have e1 := r1.length
  have e2 := r2.length
  refine PySem.EqBoolInt.of_rc (SeqAt.RcAt.lists_lengths p1.isList p2.isList ?_ hu) ⟨.bl false, H, I, rfl, h3⟩
  simp only [List.size_toArray, bne_iff_ne, ne_eq]
  omega
theorem pcd_eqLen (hu : X.A.units < cLine) (ha : PD TB X a env (.lst xs)) (hb : PD TB X b env (.lst ys)) (hn : xs.length ≠ ys.length) : PCd TB X .Eq a b env false :=
  pcd_of (op_eqLen hu) ha hb fun v u w2 Q g r1 r2 q => by
    cases r1 with
    | lst h1 h2 =>
      cases r2 with
      | lst h3 h4 => exact ⟨_, _, _, _, rfl, rfl, .inl (.inl (g.sub _ _ h1)), .inl (.inl (g.sub _ _ h3)), by rw [h2.length, h4.length]; exact hn, q⟩
/-- x = [a, ..], a list of the def's own -/
theorem sd_ownL (i : Nat) {n : Str} {p' p2 : Pos} (ha : PDs TB X es env ds) (hlen : ds.length ≤ 1000) (q : SD TB X rest (env.set i (Sl.o (.l ds))) R) (nd : X.N.Nodup) (hi : X.N[i]? = some n := by rfl) (hx : Loc X.env.scope n := by first | exact Or.inl rfl | exact Or.inr rfl)
    (hs : swapsWith (.List es p2) (some (.Name n p')) pos.line X.env = pure false := by rfl) (hf : X.fn n = true ∨ X.env.scope.names.lookup n = some .local := by first | exact .inl rfl | exact .inr rfl) : SD TB X (.Assign [.Name n p'] (.List es p2) pos :: rest) env R :=
  sd_cons fun w0 w σ D' k en => runS1 (ps_set nd hi hx (pe_lst (pa_w es)) hs hf) (ha w0 w σ _ k fun vs w1 g1 l1 r1 => by
    refine ⟨size_small (by rw [r1.length]; omega), fun q' hq => ?_⟩
    exact en.nx ⟨w1.F, upd w1.H q' (.lst vs)⟩ _ _ ((k.mono g1 l1).lay hq (show OOk X.K w1.F q' (.lst vs) (.l ds) from r1)) l1.f q)
/-- one sign in a text -/
theorem pcd_inSign {c : Nat} {z : Str} (ha : PD TB X a env (.str ⟨#[c]⟩)) (hb : PD TB X b env (.str z)) : PCd TB X .In a b env (decide (c ∈ z.cps.toList)) :=
  pcd_of op_in_sign ha hb fun v u w2 Q g r1 r2 q => by
    cases r1; cases r2
    exact ⟨c, z, rfl, rfl, q⟩
end
end Lw
set_option Elab.async false
set_option linter.all false
set_option maxRecDepth 100000
set_option maxHeartbeats 4000000
/-! # tables, checks, filters -/
namespace Lw
open PySem PySem.Spec PyProof.Rows L2
section
variable {TB : Tbs} {P : Program} {w : World} {K : PySem.W.Frag} {mg : Str → Option Value} {base : Heap} {Za : Ads}
theorem F_need_column (Z : Fx TB w K mg base Za) : FnR TB P w K mg base "need_column" ["width", "column"] 1 (fun ds res => ∃ (wi c : Int), ds = [.int wi, .int c] ∧ (0 ≤ c ∧ c < wi) ∧ res = .non) :=
  FnR.mk' (N := ["width", "column"]) Z.need_column ⟨rfl, rfl, rfl, by decide +kernel, rfl, by decide +kernel, by decide +kernel⟩ (by
    rintro ds res ⟨wi, c, rfl, h, rfl⟩
    rfl) fun f cdv A outer s0 H0 E hr => by
    rintro ds res ⟨wi, c, rfl, h, rfl⟩
    have nd : (["width", "column"] : List Str).Nodup := by decide +kernel
    exact sd_check ((pt_not' (pt_chain' op_le op_lt pd_int (pd_var 1) (pd_var 0))).cast (by simp [h.1, h.2])) (sd_nil rfl)
theorem F_need_row (Z : Fx TB w K mg base Za) : FnR TB P w K mg base "need_row" ["number", "row"] 1 (fun ds res => ∃ (wi c : Int), ds = [.int wi, .int c] ∧ (0 ≤ c ∧ c < wi) ∧ res = .non) :=
  FnR.mk' (N := ["number", "row"]) Z.need_row ⟨rfl, rfl, rfl, by decide +kernel, rfl, by decide +kernel, by decide +kernel⟩ (by
    rintro ds res ⟨wi, c, rfl, h, rfl⟩
    rfl) fun f cdv A outer s0 H0 E hr => by
    rintro ds res ⟨wi, c, rfl, h, rfl⟩
    have nd : (["number", "row"] : List Str).Nodup := by decide +kernel
    exact sd_check ((pt_not' (pt_chain' op_le op_lt pd_int (pd_var 1) (pd_var 0))).cast (by simp [h.1, h.2])) (sd_nil rfl)
theorem F_are_keys (Z : Fx TB w K mg base Za) : FnR TB P w K mg base "are_keys" ["sorting"] 1 (fun ds res => ∃ (s : List Key), ds = [eKs s] ∧ (Keyed s ∧ s.length ≤ 100) ∧ res = .bl true) :=
  FnR.mk' (N := ["sorting", "columns", "column", "sign"]) Z.are_keys ⟨rfl, rfl, rfl, by decide +kernel, rfl, by decide +kernel, by decide +kernel⟩ (by
    rintro ds res ⟨s, rfl, h, rfl⟩
    rfl) fun f cdv A outer s0 H0 E hr => by
    rintro ds res ⟨s, rfl, h, rfl⟩
    have nd : (["sorting", "columns", "column", "sign"] : List Str).Nodup := by decide +kernel
    obtain ⟨h, hl⟩ := h
    refine sd_setLcA 1 [("column", 2), ("sign", 3)] (s) (eK) (fun k => .int k.1) (pid_list (pd_var 0)) (by omega) (fun k hk => ⟨_, _, by decide, (fun _ _ _ _ _ => (pgd_tup (pgsd_cons (pgd_name 2 nd) (pgsd_cons (pgd_name 3 nd) pgsd_nil)))), fun _ _ _ _ _ => ptsd_nil, fun _ _ _ _ _ _ => ((pd_var 2))⟩) ?_ nd (blkOk_by (show blkC ["sorting", "columns", "column", "sign"] (defScope (topS 19)) _ [("column", 2), ("sign", 3)] = true from by decide +kernel))
    refine sd_check ((pt_c (pcd_neI (pd_lenSet Z.bl.len Z.bl.set (ns := s.map (·.1)) ((pd_var 1).cast (by rw [List.map_map]; rfl)) h.1 (by rw [List.length_map]; omega)) (pd_len Z.bl.len (pd_var 1) (.inl rfl)))).cast (by simp)) ?_
    exact sd_ret ((pd_all Z.bl.all (bs := s.map fun _ => true) ((pd_lcA [("column", 2), ("sign", 3)] (s) (eK) (fun k => .bl true) (pid_list (pd_var 0)) (by omega) (fun k hk => ⟨_, _, by decide, (fun _ _ _ _ _ => (pgd_tup (pgsd_cons (pgd_name 2 nd) (pgsd_cons (pgd_name 3 nd) pgsd_nil)))), fun _ _ _ _ _ => ptsd_nil, fun _ _ _ _ _ _ => ((pd_and (pd_c (pcd_ge (pd_var 2) pd_int)) fun _ => pd_one (pd_c (pcd_in (pd_var 3) (pd_tup (pds_cons (pd_int) (pds_cons (pd_neg pd_int) pds_nil))) (.inr rfl) rfl rfl (t := true) (by simp; exact (h.2 k hk).2)))).cast (by have := (h.2 k hk).1; simp [this]))⟩) nd (blkOk_by (show blkC ["sorting", "columns", "column", "sign"] (defScope (topS 19)) _ [("column", 2), ("sign", 3)] = true from by decide +kernel))).cast (by rw [List.map_map]; rfl))).cast (by simp)) rfl
theorem F_is_sorting_of (Z : Fx TB w K mg base Za) : FnR TB P w K mg base "is_sorting_of" ["width", "sorting"] 2 (fun ds res => ∃ (w : Nat) (s : List Key), ds = [.int w, eKs s] ∧ ((Keyed s ∧ s.length ≤ 100) ∧ ∀ k ∈ s, k.1 < w) ∧ res = .bl true) :=
  FnR.mk' (N := ["width", "sorting", "column", "sign"]) Z.is_sorting_of ⟨rfl, rfl, rfl, by decide +kernel, rfl, by decide +kernel, by decide +kernel⟩ (by
    rintro ds res ⟨w, s, rfl, h, rfl⟩
    rfl) fun f cdv A outer s0 H0 E hr => by
    rintro ds res ⟨w, s, rfl, h, rfl⟩
    have nd : (["width", "sorting", "column", "sign"] : List Str).Nodup := by decide +kernel
    obtain ⟨⟨h, hl⟩, h2⟩ := h
    exact sd_ret ((pd_and (pd_call (F_are_keys Z) (hr.mono (by decide)) (pds_cons ((pd_var 1)) pds_nil) ⟨s, rfl, ⟨h, hl⟩, rfl⟩) fun _ => pd_one (pd_all Z.bl.all (bs := s.map fun _ => true) ((pd_lcA [("column", 2), ("sign", 3)] (s) (eK) (fun k => .bl true) (pid_list (pd_var 1)) (by omega) (fun k hk => ⟨_, _, by decide, (fun _ _ _ _ _ => (pgd_tup (pgsd_cons (pgd_name 2 nd) (pgsd_cons (pgd_name 3 nd) pgsd_nil)))), fun _ _ _ _ _ => ptsd_nil, fun _ _ _ _ _ _ => ((pd_c (pcd_lt (pd_var 2) (pd_var 0))).cast (by simp [h2 k hk]))⟩) nd (blkOk_by (show blkC ["width", "sorting", "column", "sign"] (defScope (topS 20)) _ [("column", 2), ("sign", 3)] = true from by decide +kernel))).cast (by rw [List.map_map]; rfl)))).cast (by simp)) rfl
theorem F_need_sorting (Z : Fx TB w K mg base Za) : FnR TB P w K mg base "need_sorting" ["width", "sorting"] 3 (fun ds res => ∃ (w : Nat) (s : List Key), ds = [.int w, eKs s] ∧ ((Keyed s ∧ s.length ≤ 100) ∧ ∀ k ∈ s, k.1 < w) ∧ res = .non) :=
  FnR.mk' (N := ["width", "sorting"]) Z.need_sorting ⟨rfl, rfl, rfl, by decide +kernel, rfl, by decide +kernel, by decide +kernel⟩ (by
    rintro ds res ⟨w, s, rfl, h, rfl⟩
    rfl) fun f cdv A outer s0 H0 E hr => by
    rintro ds res ⟨w, s, rfl, h, rfl⟩
    have nd : (["width", "sorting"] : List Str).Nodup := by decide +kernel
    exact sd_check ((pt_not' (pt_v (pd_call (F_is_sorting_of Z) (hr.mono (by decide)) (pds_cons ((pd_var 0)) (pds_cons ((pd_var 1)) pds_nil)) ⟨w, s, rfl, h, rfl⟩))).cast rfl) (sd_nil rfl)
theorem F_need_order (Z : Fx TB w K mg base Za) : FnR TB P w K mg base "need_order" ["number", "order"] 1 (fun ds res => ∃ (n : Nat) (o : List Int), ds = [.int n, eIs o] ∧ (o.Perm (rg n) ∧ n ≤ 1000) ∧ res = .non) :=
  FnR.mk' (N := ["number", "order"]) Z.need_order ⟨rfl, rfl, rfl, by decide +kernel, rfl, by decide +kernel, by decide +kernel⟩ (by
    rintro ds res ⟨n, o, rfl, h, rfl⟩
    rfl) fun f cdv A outer s0 H0 E hr => by
    rintro ds res ⟨n, o, rfl, h, rfl⟩
    have nd : (["number", "order"] : List Str).Nodup := by decide +kernel
    obtain ⟨h, hn⟩ := h
    have hu := hr.units
    have hs : (rg n).Pairwise (· ≤ ·) := by
      unfold rg
      rw [List.pairwise_map]
      exact List.Pairwise.imp (fun h => by omega) (List.pairwise_lt_range (n := n))
    exact sd_check ((pt_c (pcd_neE pn_eIs hu (pd_sortedI Z.bl.sorted (pd_var 1) h.symm hs) ((pd_listRg Z.bl.list Z.bl.range (pd_var 0) (by omega)).cast (by rw [rgD_eq])))).cast (by simp)) (sd_nil rfl)
theorem F_after_click (Z : Fx TB w K mg base Za) : FnR TB P w K mg base "after_click" ["sorting", "column"] 1 (fun ds res => ∃ (s : List Key) (c : Int), ds = [eKs s, .int c] ∧ (s.length ≤ 100) ∧ res = eKs (afterClick s c)) :=
  FnR.mk' (N := ["sorting", "column", "key"]) Z.after_click ⟨rfl, rfl, rfl, by decide +kernel, rfl, by decide +kernel, by decide +kernel⟩ (by
    rintro ds res ⟨s, c, rfl, h, rfl⟩
    rfl) fun f cdv A outer s0 H0 E hr => by
    rintro ds res ⟨s, c, rfl, h, rfl⟩
    have nd : (["sorting", "column", "key"] : List Str).Nodup := by decide +kernel
    have hu := hr.units
    cases s with
    | nil =>
      refine sd_when (pw_t (pwd_and (q := false) (pt_c (pcd_neE pn_eKs (x := ([] : List Key)) (y := []) hu (pd_var 0) (pd_lst pds_nil))) fun e => by cases e)) (fun e => by cases e) fun _ => ?_
      exact sd_ret (pd_lst (pds_cons (pd_tup (pds_cons ((pd_var 1)) (pds_cons (pd_int) pds_nil))) (pds_star (pd_lcM [("key", 2)] (([] : List Key)) (eK) (fun q => !decide (q.1 = c)) (eK) (pid_list (pd_var 0)) (by simp) (fun k hk => ⟨_, _, by decide, (fun _ _ _ _ _ => (pgd_name 2 nd)), fun _ _ _ _ _ => ptsd_one (pt_c (pcd_neI (pd_ix (pd_var 2) pd_int (.inr rfl) rfl) (pd_var 1))), fun hb _ _ _ _ _ => ((pd_var 2))⟩) nd (blkOk_by (show blkC ["sorting", "column", "key"] (defScope (topS 23)) _ [("key", 2)] = true from by decide +kernel))) pds_nil)) (by simp)) rfl
    | cons k t =>
      refine sd_when (pw_t (pwd_and (pt_c (pcd_neE pn_eKs (x := k :: t) (y := []) hu (pd_var 0) (pd_lst pds_nil))) fun _ => pwd_and1 (pt_c (pcd_eqI (pd_ix (pd_ix (d := eK k) (pd_var 0) pd_int (.inl rfl) (atI0 _ _)) pd_int (.inr rfl) rfl) (pd_var 1))))) (fun e => ?_) fun e => ?_
      · have e : k.1 = c := by simpa using e
        refine sd_ret (pd_lst (pds_cons (pd_tup (pds_cons ((pd_var 1)) (pds_cons (pd_neg (pd_ix (pd_ix (d := eK k) (pd_var 0) pd_int (.inl rfl) (atI0 _ _)) pd_int (.inr rfl) rfl)) pds_nil))) (pds_star (pd_slice (pd_var 0) (po_so pd_int) po_no) pds_nil)) (by
          have := cut_length ((k :: t).map eK) (some 1) none
          simp at this h ⊢
          omega)) ?_
        have e2 : cut ((k :: t).map eK) (some 1) none = t.map eK := cut_from _ 1
        show D.lst _ = _
        rw [e2]
        simp [afterClick, e]
      · have e : ¬ k.1 = c := by simpa using e
        exact sd_ret (pd_lst (pds_cons (pd_tup (pds_cons ((pd_var 1)) (pds_cons (pd_int) pds_nil))) (pds_star (pd_lcM [("key", 2)] ((k :: t)) (eK) (fun q => !decide (q.1 = c)) (eK) (pid_list (pd_var 0)) (by omega) (fun k hk => ⟨_, _, by decide, (fun _ _ _ _ _ => (pgd_name 2 nd)), fun _ _ _ _ _ => ptsd_one (pt_c (pcd_neI (pd_ix (pd_var 2) pd_int (.inr rfl) rfl) (pd_var 1))), fun hb _ _ _ _ _ => ((pd_var 2))⟩) nd (blkOk_by (show blkC ["sorting", "column", "key"] (defScope (topS 23)) _ [("key", 2)] = true from by decide +kernel))) pds_nil)) (by
          have := List.length_filter_le (fun q : Key => !decide (q.1 = c)) (k :: t)
          simp at this h ⊢
          omega)) (by simp [Ret, afterClick, e])
end
end Lw
set_option Elab.async false
set_option linter.all false
set_option maxRecDepth 100000
set_option maxHeartbeats 4000000
/-! # tables, filters -/
namespace Lw
open PySem PySem.Spec PyProof.Rows L2
section
variable {TB : Tbs} {P : Program} {w : World} {K : PySem.W.Frag} {mg : Str → Option Value} {base : Heap} {Za : Ads}
theorem flat_rep {α : Type} (x : α) : ∀ n : Nat, (List.replicate n [x]).flatten = List.replicate n x
  | 0 => rfl
  | n + 1 => by
    rw [List.replicate_succ, List.flatten_cons, flat_rep x n, List.replicate_succ]
    rfl
theorem F_Table_init (Z : Fx TB w K mg base Za) : MkR TB P w K mg base Za.Table "Table" ["self", "width", "rows"] 1 (fun ds ns rs => ∃ (wd : Nat) (rows : List (List Int)), ds = [.int wd, eRs rows] ∧ (Tb wd rows) ∧ ns = (["wide", "cell_rows"] : List Str) ∧ rs = [.int wd, .tup (rows.map eTs)]) :=
  MkR.mk' (N := ["self", "width", "rows", "index", "cells"]) Z.Table_init ⟨rfl, rfl, rfl, by decide +kernel, rfl, by decide +kernel, by decide +kernel⟩ (by
    rintro ds ns rs ⟨wd, rows, rfl, h, rfl, rfl⟩
    rfl) fun x0 f cdv A outer s0 H0 E hr => by
    rintro ds ns rs ⟨wd, rows, rfl, h, rfl, rfl⟩
    have nd : (["self", "width", "rows", "index", "cells"] : List Str).Nodup := by decide +kernel
    refine sd_check ((pt_c (pcd_lt (pd_var 1) pd_int)).cast (by have := h.pos; simp; omega)) ?_
    refine sd_forS rows.zipIdx (fun q => .tup [.int ((q.2 : Nat) : Int), eIs q.1]) (fun _ => Sl.o (.i x0 Za.Table [] []) :: ([D.int wd, eRs rows].map Sl.d ++ [Sl.no, Sl.no])) (by rw [← enumD_map]; exact pid_enum Z.bl.enumerate (pd_var 2)) rfl (fun pre a post e => ⟨_, _, (pgd_tup (pgsd_cons (pgd_name 3 nd) (pgsd_cons (pgd_name 4 nd) pgsd_nil))), ?_⟩) ?_
    · have hm : a ∈ rows.zipIdx := by rw [e]; simp
      have hl : a.1.length = wd := h.each _ (List.fst_mem_of_mem_zipIdx hm)
      exact sd_check ((pt_c (pcd_neI (pd_len Z.bl.len (pd_var 4) (.inl rfl)) (pd_var 1))).cast (by simp [hl])) (sd_nil ((by repeat (first | exact Weak.nil | (refine Weak.cons (by first | exact WkS.refl | exact WkS.drop | exact WkS.fz | exact WkS.of_eq (by simp )) ?_)))))
    · refine sd_fld 0 rfl ((pd_var 1)) Z.cls_Table Z.no_Table_wide (by decide) (by decide) ?_
      refine sd_fld 0 rfl (pd_tuple Z.bl.tuple ((pd_lcA [("cells", 4)] (rows) (eIs) (eTs) (pid_list (pd_var 2)) ((by have := h.few; omega)) (fun r hr' => ⟨_, _, by decide, (fun _ _ _ _ _ => (pgd_name 4 nd)), fun _ _ _ _ _ => ptsd_nil, fun _ _ _ _ _ _ => (pd_tuple Z.bl.tuple (pd_var 4))⟩) nd (blkOk_by (show blkC ["self", "width", "rows", "index", "cells"] (defScope (inClass (topS 137) 0)) _ [("cells", 4)] = true from by decide +kernel))))) Z.cls_Table Z.no_Table_cell_rows (by decide) (by decide) ?_
      exact sd_nil rfl
theorem F_Table_width (Z : Fx TB w K mg base Za) : PrR TB P w K mg base Za.Table "width" 1 (fun ds res => ∃ (wd : Nat) (rows : List (List Int)), ds = [eTable Za wd rows] ∧ (True) ∧ res = .int wd) :=
  PrR.mk' (N := ["self"]) Z.Table_width ⟨rfl, rfl, rfl, by decide +kernel, rfl, by decide +kernel, by decide +kernel⟩ (by
    rintro ds res ⟨wd, rows, rfl, h, rfl⟩
    rfl) fun f cdv A outer s0 H0 E hr => by
    rintro ds res ⟨wd, rows, rfl, h, rfl⟩
    have nd : (["self"] : List Str).Nodup := by decide +kernel
    exact sd_ret (pd_fld 0 Z.cls_Table Z.no_Table_wide ((pd_var 0)) (by decide) rfl rfl) rfl
theorem F_Table_rows (Z : Fx TB w K mg base Za) : PrR TB P w K mg base Za.Table "rows" 1 (fun ds res => ∃ (wd : Nat) (rows : List (List Int)), ds = [eTable Za wd rows] ∧ (rows.length ≤ 1000) ∧ res = eRs rows) :=
  PrR.mk' (N := ["self", "cells"]) Z.Table_rows ⟨rfl, rfl, rfl, by decide +kernel, rfl, by decide +kernel, by decide +kernel⟩ (by
    rintro ds res ⟨wd, rows, rfl, h, rfl⟩
    rfl) fun f cdv A outer s0 H0 E hr => by
    rintro ds res ⟨wd, rows, rfl, h, rfl⟩
    have nd : (["self", "cells"] : List Str).Nodup := by decide +kernel
    exact sd_ret (pd_lcA [("cells", 1)] (rows) (eTs) (eIs) (pid_tup (pd_fld 1 Z.cls_Table Z.no_Table_cell_rows ((pd_var 0)) (by decide) rfl rfl)) (by omega) (fun r hr' => ⟨_, _, by decide, (fun _ _ _ _ _ => (pgd_name 1 nd)), fun _ _ _ _ _ => ptsd_nil, fun _ _ _ _ _ _ => (pd_list Z.bl.list (pd_var 1) (.inr rfl))⟩) nd (blkOk_by (show blkC ["self", "cells"] (defScope (inClass (topS 137) 2)) _ [("cells", 1)] = true from by decide +kernel))) rfl
theorem F_Table_len (Z : Fx TB w K mg base Za) : SpecR TB P w K mg base Za.Table "__len__" ["self"] 1 (fun ds res => ∃ (wd : Nat) (rows : List (List Int)), ds = [eTable Za wd rows] ∧ (True) ∧ res = .int ((rows.length : Nat) : Int)) :=
  SpecR.mk' (N := ["self"]) Z.Table_len ⟨rfl, rfl, rfl, by decide +kernel, rfl, by decide +kernel, by decide +kernel⟩ (by
    rintro ds res ⟨wd, rows, rfl, h, rfl⟩
    rfl) fun f cdv A outer s0 H0 E hr => by
    rintro ds res ⟨wd, rows, rfl, h, rfl⟩
    have nd : (["self"] : List Str).Nodup := by decide +kernel
    exact sd_ret ((pd_len Z.bl.len (pd_fld 1 Z.cls_Table Z.no_Table_cell_rows ((pd_var 0)) (by decide) rfl rfl) (.inr rfl)).cast (by simp)) rfl
theorem F_Table_cell (Z : Fx TB w K mg base Za) : MeR TB P w K mg base Za.Table "cell" ["self", "row", "column"] 2 (fun ds res => ∃ (wd : Nat) (rows : List (List Int)) (r c : Nat) (row : List Int) (v : Int), ds = [eTable Za wd rows, .int r, .int c] ∧ ((rows[r]? = some row ∧ row[c]? = some v) ∧ c < wd) ∧ res = .int v) :=
  MeR.mk' (N := ["self", "row", "column"]) Z.Table_cell ⟨rfl, rfl, rfl, by decide +kernel, rfl, by decide +kernel, by decide +kernel⟩ (by
    rintro ds res ⟨wd, rows, r, c, row, v, rfl, h, rfl⟩
    rfl) fun f cdv A outer s0 H0 E hr => by
    rintro ds res ⟨wd, rows, r, c, row, v, rfl, h, rfl⟩
    have nd : (["self", "row", "column"] : List Str).Nodup := by decide +kernel
    obtain ⟨⟨h1, h2⟩, h3⟩ := h
    have h4 := (List.getElem?_eq_some_iff.mp h1).1
    refine sd_expr (pd_call (F_need_row Z) (hr.mono (by decide)) (pds_cons (pd_len Z.bl.len (pd_fld 1 Z.cls_Table Z.no_Table_cell_rows ((pd_var 0)) (by decide) rfl rfl) (.inr rfl)) (pds_cons ((pd_var 1)) pds_nil)) ⟨_, _, rfl, by simp; omega, rfl⟩) ?_
    refine sd_expr (pd_call (F_need_column Z) (hr.mono (by decide)) (pds_cons ((pd_fld 0 Z.cls_Table Z.no_Table_wide ((pd_var 0)) (by decide) rfl rfl)) (pds_cons ((pd_var 2)) pds_nil)) ⟨_, _, rfl, by omega, rfl⟩) ?_
    exact sd_ret (pd_ix (pd_ix (d := eTs row) (pd_fld 1 Z.cls_Table Z.no_Table_cell_rows ((pd_var 0)) (by decide) rfl rfl) (pd_var 1) (.inr rfl) (atI_nat (by rw [List.getElem?_map, h1]; rfl))) (pd_var 2) (.inr rfl) (atI_nat (by rw [List.getElem?_map, h2]; rfl))) rfl
theorem F_need_filters (Z : Fx TB w K mg base Za) : FnR TB P w K mg base "need_filters" ["table", "filters"] 3 (fun ds res => ∃ (wd : Nat) (rows : List (List Int)) (fs : List D), ds = [eTable Za wd rows, .lst fs] ∧ (fs.length = wd) ∧ res = .non) :=
  FnR.mk' (N := ["table", "filters"]) Z.need_filters ⟨rfl, rfl, rfl, by decide +kernel, rfl, by decide +kernel, by decide +kernel⟩ (by
    rintro ds res ⟨wd, rows, fs, rfl, h, rfl⟩
    rfl) fun f cdv A outer s0 H0 E hr => by
    rintro ds res ⟨wd, rows, fs, rfl, h, rfl⟩
    have nd : (["table", "filters"] : List Str).Nodup := by decide +kernel
    exact sd_check ((pt_c (pcd_neI (pd_len Z.bl.len (pd_var 1) (.inl rfl)) (pd_prop (F_Table_width Z) (hr.mono (by decide)) ((pd_var 0)) ⟨_, _, rfl, True.intro, rfl⟩))).cast (by simp [h])) (sd_nil rfl)
theorem F_lets (Z : Fx TB w K mg base Za) : FnR TB P w K mg base "lets" ["bounds", "cell"] 1 (fun ds res => ∃ (c : Int), ds = [.tup [.non, .non], .int c] ∧ (True) ∧ res = .bl true) :=
  FnR.mk' (N := ["bounds", "cell", "low", "high"]) Z.lets ⟨rfl, rfl, rfl, by decide +kernel, rfl, by decide +kernel, by decide +kernel⟩ (by
    rintro ds res ⟨c, rfl, h, rfl⟩
    rfl) fun f cdv A outer s0 H0 E hr => by
    rintro ds res ⟨c, rfl, h, rfl⟩
    have nd : (["bounds", "cell", "low", "high"] : List Str).Nodup := by decide +kernel
    refine sd_unpack (pd_var 0) (pgd_tup (pgsd_cons (pgd_name 2 nd) (pgsd_cons (pgd_name 3 nd) pgsd_nil))) ?_
    exact sd_ret (d := .bl true) ((pd_and (pd_or (q := true) (pd_c (pcd_isN (pd_var 2))) (fun e => by cases e)) fun _ => pd_one (pd_or (q := true) (pd_c (pcd_isN (pd_var 3))) (fun e => by cases e))).cast (by rfl)) rfl
theorem F_lets_all (Z : Fx TB w K mg base Za) : FnR TB P w K mg base "lets_all" ["filters", "cells"] 2 (fun ds res => ∃ (cells : List Int) (n : Nat), ds = [.lst (List.replicate n (.tup [.non, .non])), eIs cells] ∧ (True) ∧ res = .bl true) :=
  FnR.mk' (N := ["filters", "cells", "bounds", "cell"]) Z.lets_all ⟨rfl, rfl, rfl, by decide +kernel, rfl, by decide +kernel, by decide +kernel⟩ (by
    rintro ds res ⟨cells, n, rfl, h, rfl⟩
    rfl) fun f cdv A outer s0 H0 E hr => by
    rintro ds res ⟨cells, n, rfl, h, rfl⟩
    have nd : (["filters", "cells", "bounds", "cell"] : List Str).Nodup := by decide +kernel
    refine sd_forS ((List.replicate n ()).zip cells) (fun q => .tup [.tup [.non, .non], .int q.2]) (fun _ => startS ["filters", "cells", "bounds", "cell"] [.lst (List.replicate n (.tup [.non, .non])), eIs cells]) (by rw [← zipD_map (fun _ => D.tup [.non, .non]), List.map_replicate]; exact pid_zip Z.bl.zip (pd_var 0) (pd_var 1)) rfl (fun pre a post e => ⟨_, _, (pgd_tup (pgsd_cons (pgd_name 2 nd) (pgsd_cons (pgd_name 3 nd) pgsd_nil))), ?_⟩) ?_
    · exact sd_check ((pt_not' (pt_v (pd_call (F_lets Z) (hr.mono (by decide)) (pds_cons ((pd_var 2)) (pds_cons ((pd_var 3)) pds_nil)) ⟨_, rfl, True.intro, rfl⟩))).cast rfl) (sd_nil ((by repeat (first | exact Weak.nil | (refine Weak.cons (by first | exact WkS.refl | exact WkS.drop | exact WkS.fz | exact WkS.of_eq (by simp )) ?_)))))
    · exact sd_ret pd_bl rfl
theorem F_rows_let (Z : Fx TB w K mg base Za) : FnR TB P w K mg base "rows_let" ["table", "filters"] 4 (fun ds res => ∃ (wd : Nat) (rows : List (List Int)) (n : Nat), ds = [eTable Za wd rows, .lst (List.replicate n (.tup [.non, .non]))] ∧ (rows.length ≤ 1000) ∧ res = eIs (rg rows.length)) :=
  FnR.mk' (N := ["table", "filters", "row", "cells"]) Z.rows_let ⟨rfl, rfl, rfl, by decide +kernel, rfl, by decide +kernel, by decide +kernel⟩ (by
    rintro ds res ⟨wd, rows, n, rfl, h, rfl⟩
    rfl) fun f cdv A outer s0 H0 E hr => by
    rintro ds res ⟨wd, rows, n, rfl, h, rfl⟩
    have nd : (["table", "filters", "row", "cells"] : List Str).Nodup := by decide +kernel
    refine sd_ret ((pd_lcM [("row", 2), ("cells", 3)] (rows.zipIdx) ((fun q => .tup [.int ((q.2 : Nat) : Int), eIs q.1])) (fun _ => true) (fun q => .int (q.2 : Nat)) ((by rw [← enumD_map]; exact pid_enum Z.bl.enumerate (pd_prop (F_Table_rows Z) (hr.mono (by decide)) ((pd_var 0)) ⟨_, _, rfl, h, rfl⟩))) ((by simp; omega)) (fun q hq => ⟨_, _, by decide, (fun _ _ _ _ _ => (pgd_tup (pgsd_cons (pgd_name 2 nd) (pgsd_cons (pgd_name 3 nd) pgsd_nil)))), fun _ _ _ _ _ => ptsd_one (pt_v (pd_call (F_lets_all Z) (hr.mono (by decide)) (pds_cons ((pd_var 1)) (pds_cons ((pd_var 3)) pds_nil)) ⟨_, _, rfl, True.intro, rfl⟩)), fun hb _ _ _ _ _ => ((pd_var 2))⟩) nd (blkOk_by (show blkC ["table", "filters", "row", "cells"] (defScope (topS 29)) _ [("row", 2), ("cells", 3)] = true from by decide +kernel)))) ?_
    show D.lst _ = _
    rw [List.filter_eq_self.mpr (fun _ _ => rfl)]
    have : ∀ (l : List (List Int)) (k : Nat), (l.zipIdx k).map (fun q => D.int ((q.2 : Nat) : Int)) = (List.range' k l.length).map fun i : Nat => D.int (i : Int) := by
      intro l
      induction l with
      | nil => intro k; rfl
      | cons a l ih => intro k; rw [List.zipIdx_cons, List.map_cons, ih, List.length_cons, List.range'_succ, List.map_cons]
    rw [this]
    unfold eIs rg
    rw [List.map_map, List.range_eq_range']
    rfl
theorem F_open_filters (Z : Fx TB w K mg base Za) : FnR TB P w K mg base "open_filters" ["width"] 1 (fun ds res => ∃ (wd : Nat), ds = [.int wd] ∧ (1 ≤ wd ∧ wd ≤ 1000) ∧ res = .lst (List.replicate wd (.tup [.non, .non]))) :=
  FnR.mk' (N := ["width"]) Z.open_filters ⟨rfl, rfl, rfl, by decide +kernel, rfl, by decide +kernel, by decide +kernel⟩ (by
    rintro ds res ⟨wd, rfl, h, rfl⟩
    rfl) fun f cdv A outer s0 H0 E hr => by
    rintro ds res ⟨wd, rfl, h, rfl⟩
    have nd : (["width"] : List Str).Nodup := by decide +kernel
    refine sd_check ((pt_c (pcd_lt (pd_var 0) pd_int)).cast (by simp; omega)) ?_
    refine sd_ret ((pd_rep (pd_lst (pds_cons (pd_gT Z.OPEN (fun F => .cons .non (.cons .non .nil))) pds_nil)) (pd_var 0) (by simp; omega) (by omega))) ?_
    exact congrArg D.lst (flat_rep _ _)
theorem F_let_rows (Z : Fx TB w K mg base Za) : FnR TB P w K mg base "let_rows" ["table", "filters"] 5 (fun ds res => ∃ (wd : Nat) (rows : List (List Int)), ds = [eTable Za wd rows, .lst (List.replicate wd (.tup [.non, .non]))] ∧ (rows.length ≤ 1000) ∧ res = eIs (rg rows.length)) :=
  FnR.mk' (N := ["table", "filters"]) Z.let_rows ⟨rfl, rfl, rfl, by decide +kernel, rfl, by decide +kernel, by decide +kernel⟩ (by
    rintro ds res ⟨wd, rows, rfl, h, rfl⟩
    rfl) fun f cdv A outer s0 H0 E hr => by
    rintro ds res ⟨wd, rows, rfl, h, rfl⟩
    have nd : (["table", "filters"] : List Str).Nodup := by decide +kernel
    refine sd_expr (pd_call (F_need_filters Z) (hr.mono (by decide)) (pds_cons ((pd_var 0)) (pds_cons ((pd_var 1)) pds_nil)) ⟨_, _, _, rfl, by simp, rfl⟩) ?_
    exact sd_ret (pd_call (F_rows_let Z) (hr.mono (by decide)) (pds_cons ((pd_var 0)) (pds_cons ((pd_var 1)) pds_nil)) ⟨_, _, _, rfl, h, rfl⟩) rfl
end
end Lw
set_option Elab.async false
set_option linter.all false
set_option maxRecDepth 100000
set_option maxHeartbeats 4000000
/-! # marks -/
namespace Lw
open PySem PySem.Spec PyProof.Rows L2
section
variable {TB : Tbs} {P : Program} {w : World} {K : PySem.W.Frag} {mg : Str → Option Value} {base : Heap} {Za : Ads}
theorem all_int (l : List Int) : (l.map D.int).all (pln 0) = true := List.all_eq_true.mpr fun y hy => by
  obtain ⟨a, _, rfl⟩ := List.mem_map.mp hy
  rfl
theorem mem_int (i : Int) (l : List Int) : decide (i ∈ l) = true ↔ D.int i ∈ l.map D.int := by
  rw [decide_eq_true_eq, List.mem_map]
  exact ⟨fun h => ⟨i, h, rfl⟩, fun ⟨j, h, e⟩ => by cases e; exact h⟩
theorem pcd_inI {X : Cx} {env : List Sl} {a b : Expr} {i : Int} {l : List Int} (ha : PD TB X a env (.int i)) (hb : PD TB X b env (eIs l)) : PCd TB X .In a b env (decide (i ∈ l)) := pcd_in ha hb (.inl rfl) rfl (all_int l) (mem_int i l)
theorem pcd_ninI {X : Cx} {env : List Sl} {a b : Expr} {i : Int} {l : List Int} (ha : PD TB X a env (.int i)) (hb : PD TB X b env (eIs l)) : PCd TB X .NotIn a b env (!decide (i ∈ l)) := pcd_notIn ha hb (.inl rfl) rfl (all_int l) (mem_int i l)
theorem F_check_there (Z : Fx TB w K mg base Za) : FnR TB P w K mg base "check_there" ["there"] 1 (fun ds res => ∃ (l : List Int), ds = [eIs l] ∧ (l.Nodup ∧ l.length ≤ 1000) ∧ res = .non) :=
  FnR.mk' (N := ["there"]) Z.check_there ⟨rfl, rfl, rfl, by decide +kernel, rfl, by decide +kernel, by decide +kernel⟩ (by
    rintro ds res ⟨l, rfl, h, rfl⟩
    rfl) fun f cdv A outer s0 H0 E hr => by
    rintro ds res ⟨l, rfl, h, rfl⟩
    have nd : (["there"] : List Str).Nodup := by decide +kernel
    exact sd_check ((pt_c (pcd_neI (pd_lenSet Z.bl.len Z.bl.set (ns := l) (pd_var 0) h.1 (by omega)) (pd_len Z.bl.len (pd_var 0) (.inl rfl)))).cast (by simp)) (sd_nil rfl)
theorem F_are_marks (Z : Fx TB w K mg base Za) : FnR TB P w K mg base "are_marks" ["marks"] 1 (fun ds res => ∃ (l : List Int), ds = [eIs l] ∧ (l.Pairwise (· < ·) ∧ l.length ≤ 1000) ∧ res = .bl true) :=
  FnR.mk' (N := ["marks", "one", "other"]) Z.are_marks ⟨rfl, rfl, rfl, by decide +kernel, rfl, by decide +kernel, by decide +kernel⟩ (by
    rintro ds res ⟨l, rfl, h, rfl⟩
    rfl) fun f cdv A outer s0 H0 E hr => by
    rintro ds res ⟨l, rfl, h, rfl⟩
    have nd : (["marks", "one", "other"] : List Str).Nodup := by decide +kernel
    refine sd_ret ((pd_all Z.bl.all (bs := (l.zip l.tail).map fun _ => true) (((pd_lcA [("one", 1), ("other", 2)] (l.zip l.tail) ((fun q => .tup [.int q.1, .int q.2])) (fun q => .bl true) ((by rw [← zipD_map]; exact pid_zip Z.bl.zip (pd_var 0) ((pd_slice (pd_var 0) (po_so pd_int) po_no).cast (by rw [cut1])))) ((by simp; omega)) (fun q hq => ⟨_, _, by decide, (fun _ _ _ _ _ => (pgd_tup (pgsd_cons (pgd_name 1 nd) (pgsd_cons (pgd_name 2 nd) pgsd_nil)))), fun _ _ _ _ _ => ptsd_nil, fun _ _ _ _ _ _ => ((pd_c (pcd_lt (pd_var 1) (pd_var 2))).cast (by simp [pairs_lt h.1 q hq]))⟩) nd (blkOk_by (show blkC ["marks", "one", "other"] (defScope (topS 37)) _ [("one", 1), ("other", 2)] = true from by decide +kernel)))).cast (by rw [List.map_map]; rfl)))) (by simp [Ret])
theorem F_check_marks (Z : Fx TB w K mg base Za) : FnR TB P w K mg base "check_marks" ["marks"] 2 (fun ds res => ∃ (l : List Int), ds = [eIs l] ∧ (l.Pairwise (· < ·) ∧ l.length ≤ 1000) ∧ res = .non) :=
  FnR.mk' (N := ["marks"]) Z.check_marks ⟨rfl, rfl, rfl, by decide +kernel, rfl, by decide +kernel, by decide +kernel⟩ (by
    rintro ds res ⟨l, rfl, h, rfl⟩
    rfl) fun f cdv A outer s0 H0 E hr => by
    rintro ds res ⟨l, rfl, h, rfl⟩
    have nd : (["marks"] : List Str).Nodup := by decide +kernel
    exact sd_check ((pt_not' (pt_v (pd_call (F_are_marks Z) (hr.mono (by decide)) (pds_cons ((pd_var 0)) pds_nil) ⟨l, rfl, h, rfl⟩))).cast rfl) (sd_nil rfl)
theorem F_check_marks_there (Z : Fx TB w K mg base Za) : FnR TB P w K mg base "check_marks_there" ["there", "marks"] 2 (fun ds res => ∃ (t l : List Int), ds = [eIs t, eIs l] ∧ ((l.Pairwise (· < ·) ∧ l.length ≤ 1000) ∧ ∀ x ∈ l, x ∈ t) ∧ res = .non) :=
  FnR.mk' (N := ["there", "marks", "row"]) Z.check_marks_there ⟨rfl, rfl, rfl, by decide +kernel, rfl, by decide +kernel, by decide +kernel⟩ (by
    rintro ds res ⟨t, l, rfl, h, rfl⟩
    rfl) fun f cdv A outer s0 H0 E hr => by
    rintro ds res ⟨t, l, rfl, h, rfl⟩
    have nd : (["there", "marks", "row"] : List Str).Nodup := by decide +kernel
    refine sd_check (PTd.cast (pw_t (pwd_or (pt_not' (pt_v (pd_call (F_are_marks Z) (hr.mono (by decide)) (pds_cons ((pd_var 1)) pds_nil) ⟨l, rfl, h.1, rfl⟩))) fun _ => pwd_or1 (pt_not' (pt_v (pd_all Z.bl.all (bs := l.map fun _ => true) (((pd_lcA [("row", 2)] (l) (D.int) (fun q => .bl true) (pid_list (pd_var 1)) ((by omega)) (fun q hq => ⟨_, _, by decide, (fun _ _ _ _ _ => (pgd_name 2 nd)), fun _ _ _ _ _ => ptsd_nil, fun _ _ _ _ _ _ => ((pd_c (pcd_inI (pd_var 2) (pd_var 0))).cast (by simp [h.2 q hq]))⟩) nd (blkOk_by (show blkC ["there", "marks", "row"] (defScope (topS 39)) _ [("row", 2)] = true from by decide +kernel)))).cast (by rw [List.map_map]; rfl))))))) (by simp)) (sd_nil rfl)
theorem F_check_marks_of (Z : Fx TB w K mg base Za) : FnR TB P w K mg base "check_marks_of" ["number", "marks"] 2 (fun ds res => ∃ (n : Nat) (l : List Int), ds = [.int n, eIs l] ∧ ((l.Pairwise (· < ·) ∧ l.length ≤ 1000) ∧ ∀ x ∈ l, 0 ≤ x ∧ x < n) ∧ res = .non) :=
  FnR.mk' (N := ["number", "marks", "row"]) Z.check_marks_of ⟨rfl, rfl, rfl, by decide +kernel, rfl, by decide +kernel, by decide +kernel⟩ (by
    rintro ds res ⟨n, l, rfl, h, rfl⟩
    rfl) fun f cdv A outer s0 H0 E hr => by
    rintro ds res ⟨n, l, rfl, h, rfl⟩
    have nd : (["number", "marks", "row"] : List Str).Nodup := by decide +kernel
    refine sd_check (PTd.cast (pw_t (pwd_or (pt_not' (pt_v (pd_call (F_are_marks Z) (hr.mono (by decide)) (pds_cons ((pd_var 1)) pds_nil) ⟨l, rfl, h.1, rfl⟩))) fun _ => pwd_or1 (pt_not' (pt_v (pd_all Z.bl.all (bs := l.map fun _ => true) (((pd_lcA [("row", 2)] (l) (D.int) (fun q => .bl true) (pid_list (pd_var 1)) ((by omega)) (fun q hq => ⟨_, _, by decide, (fun _ _ _ _ _ => (pgd_name 2 nd)), fun _ _ _ _ _ => ptsd_nil, fun _ _ _ _ _ _ => ((pd_chain op_le op_lt pd_int (pd_var 2) (pd_var 0)).cast (by simp [(h.2 q hq).1, (h.2 q hq).2]))⟩) nd (blkOk_by (show blkC ["number", "marks", "row"] (defScope (topS 40)) _ [("row", 2)] = true from by decide +kernel)))).cast (by rw [List.map_map]; rfl))))))) (by simp)) (sd_nil rfl)
theorem F_borders_in (Z : Fx TB w K mg base Za) : FnR TB P w K mg base "borders_in" ["there", "marks"] 1 (fun ds res => ∃ (t m : List Int), ds = [eIs t, eIs m] ∧ (t.length ≤ 1000) ∧ res = eIs (bordersIn t m)) :=
  FnR.mk' (N := ["there", "marks", "flags", "row", "place"]) Z.borders_in ⟨rfl, rfl, rfl, by decide +kernel, rfl, by decide +kernel, by decide +kernel⟩ (by
    rintro ds res ⟨t, m, rfl, h, rfl⟩
    rfl) fun f cdv A outer s0 H0 E hr => by
    rintro ds res ⟨t, m, rfl, h, rfl⟩
    have nd : (["there", "marks", "flags", "row", "place"] : List Str).Nodup := by decide +kernel
    obtain ⟨fl, hfl⟩ : ∃ fl : List Bool, fl = [false] ++ (t.map fun row => decide (row ∈ m)) ++ [false] := ⟨_, rfl⟩
    have hln : fl.length = t.length + 2 := by rw [hfl]; simp
    have hget : ∀ p : Int, 0 ≤ p → p.toNat < fl.length → atI (fl.map D.bl) p = some (D.bl (fl[p.toNat]?.getD false)) := fun p h0 hp => atI_int h0 (by rw [List.getElem?_map, List.getElem?_eq_getElem hp]; rfl)
    refine sd_set 2 (d := .lst (fl.map D.bl)) ((pd_cat (pd_cat (pd_lst (pds_cons (pd_bl) pds_nil)) ((pd_lcA [("row", 3)] (t) (D.int) (fun r => .bl (decide (r ∈ m))) (pid_list (pd_var 0)) ((by omega)) (fun q hq => ⟨_, _, by decide, (fun _ _ _ _ _ => (pgd_name 3 nd)), fun _ _ _ _ _ => ptsd_nil, fun _ _ _ _ _ _ => ((pd_c (pcd_inI (pd_var 3) (pd_var 1))))⟩) nd (blkOk_by (show blkC ["there", "marks", "flags", "row", "place"] (defScope (topS 44)) _ [("row", 3)] = true from by decide +kernel)))) (by simp; omega)) (pd_lst (pds_cons (pd_bl) pds_nil)) (by simp; omega)).cast (by rw [hfl]; simp [List.map_map, Function.comp_def])) ?_ nd
    refine sd_ret ((pd_lcM [("place", 4)] (rg (t.length + 1)) (D.int) (fun p => !(fl[p.toNat]?.getD false == fl[p.toNat + 1]?.getD false)) (D.int) ((by rw [← rgD_eq]; exact pid_range Z.bl.range ((pd_add (pd_len Z.bl.len (pd_var 0) (.inl rfl)) pd_int).cast (by simp)) (by omega))) ((by rw [rg_length]; omega)) (fun p hp => ⟨_, _, by decide, (fun _ _ _ _ _ => (pgd_name 4 nd)), fun _ _ _ _ _ => ptsd_one (pt_c (pcd_neB (pd_ix (pd_var 2) (pd_var 4) (.inl rfl) (hget p (mem_rg.mp hp).1 (by have := (mem_rg.mp hp).2; omega))) ((pd_ix (pd_var 2) (pd_add (pd_var 4) pd_int) (.inl rfl) (hget (p + 1) (by have := (mem_rg.mp hp).1; omega) (by have := mem_rg.mp hp; omega))).cast (by have := (mem_rg.mp hp).1; rw [show (p + 1).toNat = p.toNat + 1 by omega])))), fun hb _ _ _ _ _ => ((pd_var 4))⟩) nd (blkOk_by (show blkC ["there", "marks", "flags", "row", "place"] (defScope (topS 44)) _ [("place", 4)] = true from by decide +kernel)))) (by rw [hfl]; rfl)
end
end Lw
set_option Elab.async false
set_option linter.all false
set_option maxRecDepth 100000
set_option maxHeartbeats 4000000
/-! # costs, covers -/
namespace Lw
open PySem PySem.Spec PyProof.Rows L2
section
variable {TB : Tbs} {P : Program} {w : World} {K : PySem.W.Frag} {mg : Str → Option Value} {base : Heap} {Za : Ads}
theorem cdiv2 (i : Int) : CDiv i 2 := ⟨by decide, by decide⟩
theorem F_blocks_of (Z : Fx TB w K mg base Za) : FnR TB P w K mg base "blocks_of" ["places"] 1 (fun ds res => ∃ (l : List Int), ds = [eIs l] ∧ (l.length ≤ 1000) ∧ res = eKs (blocksOf l)) :=
  FnR.mk' (N := ["places", "found", "border"]) Z.blocks_of ⟨rfl, rfl, rfl, by decide +kernel, rfl, by decide +kernel, by decide +kernel⟩ (by
    rintro ds res ⟨l, rfl, h, rfl⟩
    rfl) fun f cdv A outer s0 H0 E hr => by
    rintro ds res ⟨l, rfl, h, rfl⟩
    have nd : (["places", "found", "border"] : List Str).Nodup := by decide +kernel
    have hu := hr.units
    refine sd_own 1 ?_ nd
    refine sd_forS l D.int (fun pre => [.d (eIs l), .o (.l ((blocksOf pre).map eK)), .no]) (pid_list (pd_var 0)) rfl (fun pre a post e => ⟨_, _, (pgd_name 2 nd), ?_⟩) ?_
    · have hlen : (blocksOf pre).length ≤ 1000 := Nat.le_trans (blocksOf_length pre) (by rw [e] at h; simp at h; omega)
      have hs := blocksOf_snoc pre a
      rcases List.eq_nil_or_concat (blocksOf pre) with h0 | ⟨init, last, h0⟩
      · rw [h0] at hs ⊢
        refine sd_if (t := false) (pt_peek 1 rfl ((pw_t (pwd_and (q := false) (pt_c (pcd_neE pn_eKs hu (x := ([] : List Key)) (y := []) (pd_var 1) (pd_lst pds_nil))) fun z => by cases z)).cast rfl)) (fun z => by cases z) fun _ => ?_
        refine sd_app 1 rfl (pd_tup (pds_cons ((pd_var 2)) (pds_cons ((pd_var 2)) pds_nil))) (by simp) ?_
        refine sd_nil (sd_nil ?_)
        show Weak _ _
        rw [hs]
        exact (by repeat (first | exact Weak.nil | (refine Weak.cons (by first | exact WkS.refl | exact WkS.drop | exact WkS.fz | exact WkS.of_eq (by simp [blockStep])) ?_)))
      · rw [List.concat_eq_append] at h0
        rw [h0] at hs hlen ⊢
        refine sd_if (t := decide (last.2 = a - 1)) (pt_peek 1 rfl ((pw_t (pwd_and (pt_c (pcd_neE pn_eKs hu (x := init ++ [last]) (y := []) (pd_var 1) (pd_lst pds_nil))) fun _ => pwd_and1 (pt_c (pcd_eqI (pd_ix (pd_ix (d := eK last) (pd_var 1) (pd_neg pd_int) (.inl rfl) (by rw [List.map_append]; exact atI_last _ _)) pd_int (.inr rfl) (atI1 _ _ _)) (pd_sub (pd_var 2) pd_int))))).cast (by simp))) (fun z => ?_) fun z => ?_
        · have z : last.2 = a - 1 := by simpa using z
          refine sd_setL 1 init.length rfl (pd_tup (pds_cons (pd_ix (pd_ixo (d := eK last) 1 rfl (pd_neg pd_int) (by rw [List.map_append]; exact atI_last _ _)) pd_int (.inr rfl) (atI0 _ _)) (pds_cons ((pd_var 2)) pds_nil))) (pd_neg pd_int) (by unfold ixN; rw [List.length_map, List.length_append, List.length_singleton, if_neg (by decide), if_pos (by omega)]; congr 1; omega) ?_
          refine sd_nil (sd_nil ?_)
          show Weak _ _
          rw [hs]
          exact (by repeat (first | exact Weak.nil | (refine Weak.cons (by first | exact WkS.refl | exact WkS.drop | exact WkS.fz | exact WkS.of_eq (by simp [blockStep, z])) ?_)))
        · have z : ¬ last.2 = a - 1 := by simpa using z
          refine sd_app 1 rfl (pd_tup (pds_cons ((pd_var 2)) (pds_cons ((pd_var 2)) pds_nil))) (by rw [List.length_map]; omega) ?_
          refine sd_nil (sd_nil ?_)
          show Weak _ _
          rw [hs]
          exact (by repeat (first | exact Weak.nil | (refine Weak.cons (by first | exact WkS.refl | exact WkS.drop | exact WkS.fz | exact WkS.of_eq (by simp [blockStep, z])) ?_)))
    · refine sd_weak (Weak.fzAt 1 rfl) ?_
      exact sd_ret (pd_var 1) rfl
theorem F_cost_in (Z : Fx TB w K mg base Za) : FnR TB P w K mg base "cost_in" ["there", "marks"] 2 (fun ds res => ∃ (t m : List Int), ds = [eIs t, eIs m] ∧ (t.length ≤ 900) ∧ res = .int (costIn t m)) :=
  FnR.mk' (N := ["there", "marks", "first", "last"]) Z.cost_in ⟨rfl, rfl, rfl, by decide +kernel, rfl, by decide +kernel, by decide +kernel⟩ (by
    rintro ds res ⟨t, m, rfl, h, rfl⟩
    rfl) fun f cdv A outer s0 H0 E hr => by
    rintro ds res ⟨t, m, rfl, h, rfl⟩
    have nd : (["there", "marks", "first", "last"] : List Str).Nodup := by decide +kernel
    have hb : (blocksOf (bordersIn t m)).length ≤ 901 := Nat.le_trans (blocksOf_length _) (Nat.le_trans borders_length (by omega))
    exact sd_ret (pd_sum Z.bl.sum (ns := (blocksOf (bordersIn t m)).map fun b => (b.2 - b.1 + 2) / 2) ((pd_lcA [("last", 3), ("first", 2)] (blocksOf (bordersIn t m)) (eK) ((fun b => .int ((b.2 - b.1 + 2) / 2))) ((pid_list (pd_call (F_blocks_of Z) (hr.mono (by decide)) (pds_cons ((pd_call (F_borders_in Z) (hr.mono (by decide)) (pds_cons ((pd_var 0)) (pds_cons ((pd_var 1)) pds_nil)) ⟨_, _, rfl, by omega, rfl⟩)) pds_nil) ⟨_, rfl, Nat.le_trans borders_length (by omega), rfl⟩))) ((by omega)) (fun b hb' => ⟨_, _, by decide, (fun _ _ _ _ _ => (pgd_tup (pgsd_cons (pgd_name 2 nd) (pgsd_cons (pgd_name 3 nd) pgsd_nil)))), fun _ _ _ _ _ => ptsd_nil, fun _ _ _ _ _ _ => (pd_fdiv (pd_add (pd_sub (pd_var 3) (pd_var 2)) pd_int) pd_int (cdiv2 _))⟩) nd (blkOk_by (show blkC ["there", "marks", "first", "last"] (defScope (topS 46)) _ [("last", 3), ("first", 2)] = true from by decide +kernel))).cast (by rw [List.map_map]; rfl))) rfl
theorem F_numbers_of_covers (Z : Fx TB w K mg base Za) : FnR TB P w K mg base "numbers_of_covers" ["blocks"] 1 (fun ds res => ∃ (bs : List Key), ds = [eKs bs] ∧ (bs.length ≤ 1000) ∧ res = eIs (bs.map covers)) :=
  FnR.mk' (N := ["blocks", "found", "first", "last", "size"]) Z.numbers_of_covers ⟨rfl, rfl, rfl, by decide +kernel, rfl, by decide +kernel, by decide +kernel⟩ (by
    rintro ds res ⟨bs, rfl, h, rfl⟩
    rfl) fun f cdv A outer s0 H0 E hr => by
    rintro ds res ⟨bs, rfl, h, rfl⟩
    have nd : (["blocks", "found", "first", "last", "size"] : List Str).Nodup := by decide +kernel
    refine sd_own 1 ?_ nd
    refine sd_forS bs eK (fun pre => [.d (eKs bs), .o (.l ((pre.map covers).map D.int)), .no, .no, .no]) (pid_list (pd_var 0)) rfl (fun pre a post e => ⟨_, _, (pgd_tup (pgsd_cons (pgd_name 2 nd) (pgsd_cons (pgd_name 3 nd) pgsd_nil))), ?_⟩) ?_
    · have hl : pre.length ≤ 1000 := by rw [e] at h; simp at h; omega
      refine sd_set 4 (pd_add (pd_sub (pd_var 3) (pd_var 2)) pd_int) ?_ nd
      refine sd_app 1 rfl (d := .int (covers a)) (pd_if (pt_c (pcd_eqI (pd_mod (pd_var 4) pd_int (by decide)) pd_int)) (fun z => ?_) fun z => ?_) (by rw [List.length_map, List.length_map]; omega) (sd_nil (by repeat (first | exact Weak.nil | (refine Weak.cons (by first | exact WkS.refl | exact WkS.drop | exact WkS.fz | exact WkS.of_eq (by simp )) ?_))))
      · exact (pd_add (pd_fdiv (pd_var 4) pd_int (cdiv2 _)) pd_int).cast (by simp at z; simp [covers, z])
      · exact pd_int.cast (by simp at z; simp [covers, z])
    · refine sd_weak (Weak.fzAt 1 rfl) ?_
      exact sd_ret (pd_var 1) rfl
end
end Lw
set_option Elab.async false
set_option linter.all false
set_option maxRecDepth 100000
set_option maxHeartbeats 4000000
/-! # covers, clicks -/
namespace Lw
open PySem PySem.Spec PyProof.Rows L2
section
variable {TB : Tbs} {P : Program} {w : World} {K : PySem.W.Frag} {mg : Str → Option Value} {base : Heap} {Za : Ads}
theorem cmul_s {i j : Int} (h1 : -1000000 ≤ i) (h2 : i ≤ 1000000) : CMul i j := .inl ⟨by omega, by omega⟩
theorem F_block_cover (Z : Fx TB w K mg base Za) : FnR TB P w K mg base "block_cover" ["block", "choice"] 1 (fun ds res => ∃ (b : Key), ds = [eK b, .int 0] ∧ (b.1 ≤ b.2 ∧ b.2 - b.1 ≤ 1000) ∧ res = .lst ((blockCover b).map eTs)) :=
  FnR.mk' (N := ["block", "choice", "first", "last", "tokens", "border"]) Z.block_cover ⟨rfl, rfl, rfl, by decide +kernel, rfl, by decide +kernel, by decide +kernel⟩ (by
    rintro ds res ⟨b, rfl, h, rfl⟩
    rfl) fun f cdv A outer s0 H0 E hr => by
    rintro ds res ⟨b, rfl, h, rfl⟩
    have nd : (["block", "choice", "first", "last", "tokens", "border"] : List Str).Nodup := by decide +kernel
    refine sd_unpack (pd_var 0) (pgd_tup (pgsd_cons (pgd_name 2 nd) (pgsd_cons (pgd_name 3 nd) pgsd_nil))) ?_
    refine sd_own 4 ?_ nd
    refine sd_set 5 ((pd_var 2)) ?_ nd
    refine sd_while (fun m l => ∃ (x : Int) (acc : List (List Int)), l = [.d (eK b), .d (.int 0), .d (.int b.1), .d (.int b.2), .o (.l (acc.map eTs)), .d (.int x)] ∧ acc ++ coverFrom b m x = blockCover b ∧ b.2 - x + 1 ≤ m ∧ acc.length + m ≤ 2000) (b.2 - b.1 + 1).toNat ⟨b.1, [], rfl, rfl, by omega, by rw [List.length_nil]; omega⟩ (fun m l hI => ?_)
    obtain ⟨x, acc, rfl, h1, h2, h3⟩ := hI
    refine ⟨_, pt_c (pcd_le (pd_var 5) (pd_var 3)), fun z => ?_, fun z => ?_⟩
    · have z : x ≤ b.2 := by simpa using z
      obtain ⟨k, rfl⟩ : ∃ k, m = k + 1 := ⟨m - 1, by omega⟩
      unfold coverFrom at h1
      rw [if_pos z] at h1
      refine sd_if (t := decide ((b.2 - b.1) % 2 = 0 ∧ x = b.1)) ((pw_t (pwd_and (pt_c (pcd_eqI (pd_mod (pd_sub (pd_var 3) (pd_var 2)) pd_int (by decide)) pd_int)) fun _ => pwd_and1 (pt_c (pcd_eqI (pd_var 5) (pd_add (pd_var 2) (pd_mul pd_int (pd_var 1) (cmul_s (by decide) (by decide)))))))).cast (by simp)) (fun y => ?_) fun y => ?_
      · have y := of_decide_eq_true y
        rw [if_pos y] at h1
        refine sd_app 4 rfl (pd_tup (pds_cons ((pd_var 5)) pds_nil)) (by rw [List.length_map]; omega) ?_
        refine sd_augI 5 rfl pd_int (sd_nil (sd_nil ⟨k, by omega, _, Weak.refl _, x + 1, acc ++ [[x]], ?_, ?_, by omega, by simp; omega⟩)) nd
        · simp [startS]
        · rw [← h1]
          simp
      · have y := of_decide_eq_false y
        rw [if_neg y] at h1
        refine sd_app 4 rfl (pd_tup (pds_cons ((pd_var 5)) (pds_cons (pd_add (pd_var 5) pd_int) pds_nil))) (by rw [List.length_map]; omega) ?_
        refine sd_augI 5 rfl pd_int (sd_nil (sd_nil ⟨k, by omega, _, Weak.refl _, x + 2, acc ++ [[x, x + 1]], ?_, ?_, by omega, by simp; omega⟩)) nd
        · simp [startS]
        · rw [← h1]
          simp
    · have z : ¬ x ≤ b.2 := by simpa using z
      have e : coverFrom b m x = [] := by
        cases m with
        | zero => rfl
        | succ k => unfold coverFrom; rw [if_neg z]
      rw [e, List.append_nil] at h1
      subst h1
      refine sd_weak (Weak.fzAt 4 rfl) ?_
      exact sd_ret (pd_var 4) rfl
theorem covers_pos {b : Key} (h : b.1 ≤ b.2 ∧ b.2 - b.1 ≤ 1000) : 0 < covers b ∧ covers b < 1073741824 := by
  unfold covers
  split <;> omega
theorem F_cover_in (Z : Fx TB w K mg base Za) : FnR TB P w K mg base "cover_in" ["there", "marks", "index"] 2 (fun ds res => ∃ (t m : List Int), ds = [eIs t, eIs m, .int 0] ∧ (t.length ≤ 100) ∧ res = .lst ((coverIn t m).map eTs)) :=
  FnR.mk' (N := ["there", "marks", "index", "blocks", "choices", "number", "found", "block", "choice"]) Z.cover_in ⟨rfl, rfl, rfl, by decide +kernel, rfl, by decide +kernel, by decide +kernel⟩ (by
    rintro ds res ⟨t, m, rfl, h, rfl⟩
    rfl) fun f cdv A outer s0 H0 E hr => by
    rintro ds res ⟨t, m, rfl, h, rfl⟩
    have nd : (["there", "marks", "index", "blocks", "choices", "number", "found", "block", "choice"] : List Str).Nodup := by decide +kernel
    have hb0 : (blocksOf (bordersIn t m)).length ≤ 101 := Nat.le_trans (blocksOf_length _) (Nat.le_trans borders_length (by omega))
    have hok := blocksOf_ok (borders_ok (t := t) (m := m))
    have hin : ∀ b ∈ blocksOf (bordersIn t m), b.1 ≤ b.2 ∧ b.2 - b.1 ≤ 1000 := fun b hb => by
      have := hok b hb
      omega
    have hcov : ((blocksOf (bordersIn t m)).flatMap blockCover) = coverIn t m := rfl
    obtain ⟨bs, hbs⟩ : ∃ bs, bs = blocksOf (bordersIn t m) := ⟨_, rfl⟩
    refine sd_set 3 ((pd_call (F_blocks_of Z) (hr.mono (by decide)) (pds_cons ((pd_call (F_borders_in Z) (hr.mono (by decide)) (pds_cons ((pd_var 0)) (pds_cons ((pd_var 1)) pds_nil)) ⟨_, _, rfl, by omega, rfl⟩)) pds_nil) ⟨_, rfl, Nat.le_trans borders_length (by omega), rfl⟩)) ?_ nd
    rw [← hbs] at hb0 hok hin hcov ⊢
    refine sd_own 4 ?_ nd
    refine sd_forS (bs.map covers).reverse D.int (fun pre => [.d (eIs t), .d (eIs m), .d (.int 0), .d (eKs bs), .o (.l (pre.map fun _ => D.int 0)), .no, .no, .no, .no]) (by rw [List.map_reverse]; exact pid_list (pd_rev (pd_call (F_numbers_of_covers Z) (hr.mono (by decide)) (pds_cons ((pd_var 3)) pds_nil) ⟨_, rfl, by omega, rfl⟩))) rfl (fun pre a post e => ⟨_, _, (pgd_name 5 nd), ?_⟩) ?_
    · have hm : a ∈ (bs.map covers).reverse := by rw [e]; simp
      obtain ⟨b, hb, rfl⟩ := List.mem_map.mp (List.mem_reverse.mp hm)
      have hc := covers_pos (hin b hb)
      have hl : pre.length ≤ 101 := by
        have := congrArg List.length e
        simp at this
        omega
      refine sd_app 4 rfl (d := .int 0) ((pd_mod (pd_var 2) (pd_var 5) hc.1).cast (by rw [Int.zero_emod])) (by rw [List.length_map]; omega) ?_
      refine sd_set 2 (d := .int 0) ((pd_fdiv (pd_var 2) (pd_var 5) hc).cast (by simp)) (sd_nil (by repeat (first | exact Weak.nil | (refine Weak.cons (by first | exact WkS.refl | exact WkS.drop | exact WkS.fz | exact WkS.of_eq (by simp )) ?_)))) nd
    · have e1 : (((bs.map covers).reverse).map fun _ => D.int 0) = List.replicate bs.length (D.int 0) := by
        rw [List.map_const']
        simp
      show SD _ _ _ [Sl.d (eIs t), .d (eIs m), .d (.int 0), .d (eKs bs), .o (.l (((bs.map covers).reverse).map fun _ => D.int 0)), .no, .no, .no, .no] _
      rw [e1]
      refine sd_weak (Weak.fzAt 4 rfl) ?_
      refine sd_own 6 ?_ nd
      have hz : ∀ l : List Key, zipD (l.map eK) (List.replicate l.length (D.int 0)) = l.map fun b => D.tup [eK b, .int 0] := fun l => by
        induction l with
        | nil => rfl
        | cons a l ih =>
          unfold zipD at ih ⊢
          rw [List.map_cons, List.length_cons, List.replicate_succ, List.zip_cons_cons, List.map_cons, ih]
          rfl
      have hlen : ∀ l : List Key, (∀ b ∈ l, 0 ≤ b.1 ∧ b.1 ≤ b.2 ∧ b.2 ≤ (t.length : Int)) → (l.flatMap blockCover).length ≤ 200 * l.length := by
        intro l
        induction l with
        | nil => intro _; exact Nat.zero_le _
        | cons b l ih =>
          intro hl
          have h1 := hl b List.mem_cons_self
          have h2 := ih fun c hc => hl c (List.mem_cons_of_mem _ hc)
          have h3 : ∀ n x, (coverFrom b n x).length ≤ n := by
            intro n
            induction n with
            | zero => intro x; exact Nat.le_refl _
            | succ n ih =>
              intro x
              unfold coverFrom
              split
              · split
                · rw [List.length_cons]; have := ih (x + 1); omega
                · rw [List.length_cons]; have := ih (x + 2); omega
              · exact Nat.zero_le _
          have h4 : (blockCover b).length ≤ 200 := Nat.le_trans (h3 _ _) (by omega)
          rw [List.flatMap_cons, List.length_append, List.length_cons]
          omega
      refine sd_forS bs (fun b => D.tup [eK b, .int 0]) (fun pre => [.d (eIs t), .d (eIs m), .d (.int 0), .d (eKs bs), .d (.lst (List.replicate bs.length (D.int 0))), .no, .o (.l ((pre.flatMap blockCover).map eTs)), .no, .no]) (by rw [← hz]; exact pid_zip Z.bl.zip (pd_var 3) ((pd_rev (pd_var 4)).cast (by rw [List.reverse_replicate]))) rfl (fun pre a post e => ⟨_, _, (pgd_tup (pgsd_cons (pgd_name 7 nd) (pgsd_cons (pgd_name 8 nd) pgsd_nil))), ?_⟩) ?_
      · have hm : a ∈ bs := by rw [e]; simp
        have h1 := hlen (pre ++ [a]) fun c hc => hok c (by
          rw [e]
          rcases List.mem_append.mp hc with hc | hc
          · exact List.mem_append.mpr (.inl hc)
          · rw [List.mem_singleton.mp hc]
            exact List.mem_append.mpr (.inr List.mem_cons_self))
        have h2 : pre.length + 1 ≤ bs.length := by rw [e]; simp
        rw [List.flatMap_append, List.length_append, List.length_append, List.length_singleton] at h1
        simp only [List.flatMap_cons, List.flatMap_nil, List.append_nil] at h1
        refine sd_ext 6 rfl (pd_call (F_block_cover Z) (hr.mono (by decide)) (pds_cons ((pd_var 7)) (pds_cons ((pd_var 8)) pds_nil)) ⟨_, rfl, hin a hm, rfl⟩) (by rw [List.length_map, List.length_map]; omega) (sd_nil (by repeat (first | exact Weak.nil | (refine Weak.cons (by first | exact WkS.refl | exact WkS.drop | exact WkS.fz | exact WkS.of_eq (by simp )) ?_))))
      · refine sd_weak (Weak.fzAt 6 rfl) ?_
        exact sd_ret (pd_var 6) (by rw [← hcov]; rfl)
theorem F_clicks_in (Z : Fx TB w K mg base Za) : FnR TB P w K mg base "clicks_in" ["cover"] 1 (fun ds res => ∃ (cv : List (List Int)), ds = [.lst (cv.map eTs)] ∧ ((cv.length ≤ 30000 ∧ ∀ t ∈ cv, t ≠ []) ∧ (cv.filter fun t => decide (t.length = 1)).length % 2 = 0) ∧ res = eCs (clicksIn cv)) :=
  FnR.mk' (N := ["cover", "singles", "token", "found", "place"]) Z.clicks_in ⟨rfl, rfl, rfl, by decide +kernel, rfl, by decide +kernel, by decide +kernel⟩ (by
    rintro ds res ⟨cv, rfl, h, rfl⟩
    rfl) fun f cdv A outer s0 H0 E hr => by
    rintro ds res ⟨cv, rfl, h, rfl⟩
    have nd : (["cover", "singles", "token", "found", "place"] : List Str).Nodup := by decide +kernel
    obtain ⟨⟨hl, hne⟩, hev⟩ := h
    have hd : ∀ t : List Int, t ≠ [] → atI (t.map D.int) 0 = some (D.int (hd0 t)) := fun t ht => by
      cases t with
      | nil => exact absurd rfl ht
      | cons a t => exact atI0 _ _
    have hf := fun n : Nat => List.length_filter_le (fun t : List Int => decide (t.length = n)) cv
    obtain ⟨ss, hss⟩ : ∃ ss, ss = (cv.filter fun t => decide (t.length = 1)).map hd0 := ⟨_, rfl⟩
    have hsl : ss.length % 2 = 0 := by rw [hss, List.length_map]; exact hev
    have hs2 : ss.length ≤ 30000 := by rw [hss, List.length_map]; exact Nat.le_trans (hf 1) hl
    refine sd_setLcM 1 [("token", 2)] (cv) (eTs) ((fun t => decide (t.length = 1))) ((fun t => .int (hd0 t))) (pid_list (pd_var 0)) ((by omega)) (fun t ht => ⟨_, _, by decide, (fun _ _ _ _ _ => (pgd_name 2 nd)), fun _ _ _ _ _ => ptsd_one ((pt_c (pcd_eqI (pd_len Z.bl.len (pd_var 2) (.inr rfl)) pd_int)).cast (by simp; omega)), fun hb _ _ _ _ _ => (pd_ix (pd_var 2) pd_int (.inr rfl) (hd t (hne t ht)))⟩) ?_ nd (blkOk_by (show blkC ["cover", "singles", "token", "found", "place"] (defScope (topS 54)) _ [("token", 2)] = true from by decide +kernel))
    have e1 : D.lst ((cv.filter fun t => decide (t.length = 1)).map fun t => D.int (hd0 t)) = eIs ss := by rw [hss]; unfold eIs; rw [List.map_map]; rfl
    rw [e1]
    refine sd_own 3 ?_ nd
    have hget : ∀ i : Nat, i < ss.length / 2 → ∃ a b r, ss.drop (2 * i) = a :: b :: r ∧ ss[2 * i]? = some a ∧ ss[2 * i + 1]? = some b ∧ ss.drop (2 * (i + 1)) = r := fun i hi => by
      have h1 : 2 * i + 1 < ss.length := by omega
      refine ⟨ss[2 * i], ss[2 * i + 1], ss.drop (2 * i + 2), ?_, List.getElem?_eq_getElem (by omega), List.getElem?_eq_getElem h1, rfl⟩
      rw [List.drop_eq_getElem_cons (by omega), List.drop_eq_getElem_cons (by omega)]
    have hpu : ∀ i : Nat, i ≤ ss.length / 2 → pairUp (ss.take (2 * i)) ++ pairUp (ss.drop (2 * i)) = pairUp ss ∧ (pairUp (ss.take (2 * i))).length ≤ 2 * i ∧ ∀ x y, i < ss.length / 2 → ss[2 * i]? = some x → ss[2 * i + 1]? = some y → pairUp (ss.take (2 * (i + 1))) = pairUp (ss.take (2 * i)) ++ [(("click" : Str), x), (("range" : Str), y - 1)] := by
      have gen : ∀ (i : Nat) (l : List Int), i ≤ l.length / 2 → pairUp (l.take (2 * i)) ++ pairUp (l.drop (2 * i)) = pairUp l ∧ (pairUp (l.take (2 * i))).length ≤ 2 * i ∧ ∀ x y, i < l.length / 2 → l[2 * i]? = some x → l[2 * i + 1]? = some y → pairUp (l.take (2 * (i + 1))) = pairUp (l.take (2 * i)) ++ [(("click" : Str), x), (("range" : Str), y - 1)] := by
        intro i
        induction i with
        | zero =>
          intro l hl
          refine ⟨by simp [pairUp], by simp [pairUp], fun x y hlt h1 h2 => ?_⟩
          match l, h1, h2 with
          | a :: b :: r, h1, h2 =>
            cases h1
            cases h2
            simp [pairUp]
        | succ i ih =>
          intro l hl
          match l, hl with
          | [], hl => simp at hl
          | [a], hl => simp at hl
          | a :: b :: r, hl =>
            have hl' : i ≤ r.length / 2 := by simp at hl; omega
            obtain ⟨q1, q2, q3⟩ := ih r hl'
            have et : ∀ j : Nat, (a :: b :: r).take (2 * (j + 1)) = a :: b :: r.take (2 * j) := fun j => by rw [show 2 * (j + 1) = (2 * j + 1) + 1 by omega, List.take_succ_cons, List.take_succ_cons]
            have ed : ∀ j : Nat, (a :: b :: r).drop (2 * (j + 1)) = r.drop (2 * j) := fun j => by rw [show 2 * (j + 1) = (2 * j + 1) + 1 by omega, List.drop_succ_cons, List.drop_succ_cons]
            have eg : ∀ j : Nat, (a :: b :: r)[2 * (i + 1) + j]? = r[2 * i + j]? := fun j => by rw [show 2 * (i + 1) + j = (2 * i + j + 1) + 1 by omega, List.getElem?_cons_succ, List.getElem?_cons_succ]
            refine ⟨?_, ?_, fun x y hlt h1 h2 => ?_⟩
            · rw [et, ed]
              simp only [pairUp, List.cons_append]
              rw [q1]
            · rw [et]
              simp only [pairUp, List.length_cons]
              omega
            · rw [et, et]
              simp only [pairUp, List.cons_append]
              rw [q3 x y (by simp at hlt; omega) ((eg 0).symm.trans h1) ((eg 1).symm.trans h2)]
      exact fun i hi => gen i ss hi
    refine sd_forS (List.range (ss.length / 2)) (fun i : Nat => D.int (2 * (i : Int))) (fun pre => [.d (.lst (cv.map eTs)), .d (eIs ss), .no, .o (.l ((pairUp (ss.take (2 * pre.length))).map eC)), .no]) (pid_range2 Z.bl.range pd_int ((pd_len Z.bl.len (pd_var 1) (.inl rfl)).cast (by rw [List.length_map]; congr 1; omega)) pd_int (by omega)) (by simp [pairUp, startS]) (fun pre a post e => ⟨_, _, (pgd_name 4 nd), ?_⟩) ?_
    · have ea : a = pre.length := by
        have h1 : (List.range (ss.length / 2))[pre.length]? = some a := by rw [e]; simp
        rw [List.getElem?_range (by have := congrArg List.length e; simp at this; omega)] at h1
        exact (Option.some.inj h1).symm
      have hlt : pre.length < ss.length / 2 := by have := congrArg List.length e; simp at this; omega
      subst ea
      obtain ⟨x, y, r, _, hx, hy, _⟩ := hget _ hlt
      obtain ⟨_, q2, q3⟩ := hpu pre.length (by omega)
      have q4 := q3 x y hlt hx hy
      have ix : atI (ss.map D.int) (2 * ((pre.length : Nat) : Int)) = some (D.int x) := atI_int (by omega) (by rw [show (2 * ((pre.length : Nat) : Int)).toNat = 2 * pre.length by omega, List.getElem?_map, hx]; rfl)
      have iy : atI (ss.map D.int) (2 * ((pre.length : Nat) : Int) + 1) = some (D.int y) := atI_int (by omega) (by rw [show (2 * ((pre.length : Nat) : Int) + 1).toNat = 2 * pre.length + 1 by omega, List.getElem?_map, hy]; rfl)
      refine sd_app 3 rfl (d := eC ("click", x)) (pd_tup (pds_cons (pd_gS Z.CLICK) (pds_cons (pd_ix (pd_var 1) (pd_var 4) (.inl rfl) ix) pds_nil))) (by rw [List.length_map]; omega) ?_
      refine sd_app 3 rfl (d := eC ("range", y - 1)) (pd_tup (pds_cons (pd_gS Z.RANGE) (pds_cons (pd_sub (pd_ix (pd_var 1) (pd_add (pd_var 4) pd_int) (.inl rfl) iy) pd_int) pds_nil))) (by rw [List.length_append, List.length_map, List.length_singleton]; omega) ?_
      refine sd_nil ?_
      show Weak _ _
      rw [List.length_append, List.length_singleton, q4]
      exact (by repeat (first | exact Weak.nil | (refine Weak.cons (by first | exact WkS.refl | exact WkS.drop | exact WkS.fz | exact WkS.of_eq (by simp )) ?_)))
    · have e3 : pairUp (ss.take (2 * (List.range (ss.length / 2)).length)) = pairUp ss := by
        rw [List.length_range, show 2 * (ss.length / 2) = ss.length by omega, List.take_length]
      have hlp : (pairUp ss).length ≤ 30000 := by
        have := (hpu (ss.length / 2) (Nat.le_refl _)).2.1
        rw [List.length_range] at e3
        rw [e3] at this
        omega
      show SD _ _ _ [Sl.d (.lst (cv.map eTs)), .d (eIs ss), .no, .o (.l ((pairUp (ss.take (2 * (List.range (ss.length / 2)).length))).map eC)), .no] _
      rw [e3]
      refine sd_ext 3 rfl (pd_lcM [("token", 2)] (cv) (eTs) ((fun t => decide (t.length = 2))) ((fun t => eC ("click", hd0 t))) (pid_list (pd_var 0)) ((by omega)) (fun t ht => ⟨_, _, by decide, (fun _ _ _ _ _ => (pgd_name 2 nd)), fun _ _ _ _ _ => ptsd_one ((pt_c (pcd_eqI (pd_len Z.bl.len (pd_var 2) (.inr rfl)) pd_int)).cast (by simp; omega)), fun hb _ _ _ _ _ => (pd_tup (pds_cons (pd_gS Z.CLICK) (pds_cons (pd_ix (pd_var 2) pd_int (.inr rfl) (hd t (hne t ht))) pds_nil)))⟩) nd (blkOk_by (show blkC ["cover", "singles", "token", "found", "place"] (defScope (topS 54)) _ [("token", 2)] = true from by decide +kernel))) (by have := hf 2; rw [List.length_map, List.length_map]; omega) ?_
      refine sd_weak (Weak.fzAt 3 rfl) ?_
      refine sd_ret (pd_var 3) ?_
      show D.lst _ = _
      rw [hss]
      simp [clicksIn, List.map_map, Function.comp_def]
end
end Lw
set_option Elab.async false
set_option linter.all false
set_option maxRecDepth 100000
set_option maxHeartbeats 4000000
/-! # sortings, ways -/
namespace Lw
open PySem PySem.Spec PyProof.Rows L2
section
variable {TB : Tbs} {P : Program} {w : World} {K : PySem.W.Frag} {mg : Str → Option Value} {base : Heap} {Za : Ads}
structure Srt (w : Nat) (s : List Key) : Prop where
  keyed : Keyed s
  len : s.length ≤ 50
  inw : ∀ k ∈ s, k.1 < w
theorem Srt.need {w : Nat} {s : List Key} (h : Srt w s) : (Keyed s ∧ s.length ≤ 100) ∧ ∀ k ∈ s, k.1 < w := ⟨⟨h.keyed, Nat.le_trans h.len (by decide)⟩, h.inw⟩
theorem afterClick_length (s : List Key) (c : Int) : (afterClick s c).length ≤ s.length + 1 := by
  cases s with
  | nil => exact Nat.le_refl _
  | cons k t =>
    have e : afterClick (k :: t) c = if k.1 = c then (c, -k.2) :: t else (c, 1) :: (k :: t).filter fun q => !decide (q.1 = c) := rfl
    rw [e]
    split
    · exact Nat.le_succ _
    · exact Nat.succ_le_succ (List.length_filter_le _ (k :: t))
theorem afterClicks_snoc (s : List Key) (cs : List Int) (c : Int) : afterClicks s (cs ++ [c]) = afterClick (afterClicks s cs) c := by
  unfold afterClicks
  rw [List.foldl_append]
  rfl
theorem afterClicks_length (cs : List Int) : ∀ (s : List Key), (afterClicks s cs).length ≤ s.length + cs.length := by
  induction cs with
  | nil => intro s; exact Nat.le_refl _
  | cons c cs ih =>
    intro s
    have h1 := ih (afterClick s c)
    have h2 := afterClick_length s c
    show (afterClicks (afterClick s c) cs).length ≤ _
    rw [List.length_cons]
    omega
theorem sortLoop_small : ∀ w < 3, ∀ n < 3, (sortLoop w n).1.length ≤ 60 ∧ (sortLoop w n).2.length ≤ 20 ∧ (sortLayer w (sortLoop w n).2).length ≤ 40 ∧ ∀ keys ∈ (sortLoop w n).2, keys.length ≤ 2 := by decide
theorem F_need_width (Z : Fx TB w K mg base Za) : FnR TB P w K mg base "need_width" ["width"] 1 (fun ds res => ∃ (w : Nat), ds = [.int w] ∧ (1 ≤ w) ∧ res = .non) :=
  FnR.mk' (N := ["width"]) Z.need_width ⟨rfl, rfl, rfl, by decide +kernel, rfl, by decide +kernel, by decide +kernel⟩ (by
    rintro ds res ⟨w, rfl, h, rfl⟩
    rfl) fun f cdv A outer s0 H0 E hr => by
    rintro ds res ⟨w, rfl, h, rfl⟩
    have nd : (["width"] : List Str).Nodup := by decide +kernel
    exact sd_check ((pt_c (pcd_lt (pd_var 0) pd_int)).cast (by simp; omega)) (sd_nil rfl)
theorem F_all_sortings (Z : Fx TB w K mg base Za) : FnR TB P w K mg base "all_sortings" ["width"] 1 (fun ds res => ∃ (wd : Nat), ds = [.int wd] ∧ (wd < 3) ∧ res = eKss (sorts wd)) :=
  FnR.mk' (N := ["width", "found", "layer", "turn", "longer", "keys", "used", "column", "sign", "left"]) Z.all_sortings ⟨rfl, rfl, rfl, by decide +kernel, rfl, by decide +kernel, by decide +kernel⟩ (by
    rintro ds res ⟨wd, rfl, h, rfl⟩
    rfl) fun f cdv A outer s0 H0 E hr => by
    rintro ds res ⟨wd, rfl, h, rfl⟩
    have nd : (["width", "found", "layer", "turn", "longer", "keys", "used", "column", "sign", "left"] : List Str).Nodup := by decide +kernel
    refine sd_parOwn 1 2 (ds := [D.lst []]) (pds_cons (pd_lst pds_nil) pds_nil) (by decide) (pd_lst (pds_cons (pd_lst pds_nil) pds_nil)) ?_ nd
    refine sd_forS (List.range wd) (fun i : Nat => D.int (i : Int)) (fun pre => [.d (.int wd), .o (.l ((sortLoop wd pre.length).1.map eKs)), .d (eKss (sortLoop wd pre.length).2), .no, .no, .no, .no, .no, .no, .no]) (pid_range Z.bl.range (pd_var 0) (by omega)) rfl (fun pre a post e => ⟨_, _, (pgd_name 3 nd), ?_⟩) ?_
    · have hn : pre.length < 3 := by have := congrArg List.length e; simp at this; omega
      obtain ⟨z1, z2, z3, z4⟩ := sortLoop_small wd h pre.length hn
      refine sd_own 4 ?_ nd
      refine sd_forS (sortLoop wd pre.length).2 eKs (fun p2 => [.d (.int wd), .o (.l ((sortLoop wd pre.length).1.map eKs)), .d (eKss (sortLoop wd pre.length).2), .d (.int (a : Int)), .o (.l ((sortLayer wd p2).map eKs)), .no, .no, .no, .no, .no]) (pid_list (pd_var 2)) rfl (fun p2 keys post2 e2 => ⟨_, _, (pgd_name 5 nd), ?_⟩) ?_
      · have hk : (sortLayer wd p2).length + (sortLayer wd [keys]).length ≤ 40 := by
          have : sortLayer wd (sortLoop wd pre.length).2 = sortLayer wd p2 ++ (sortLayer wd [keys] ++ sortLayer wd post2) := by
            rw [e2]
            simp [sortLayer]
          rw [this] at z3
          simp only [List.length_append] at z3
          omega
        have hkl : keys.length ≤ 2 := z4 keys (by rw [e2]; simp)
        refine sd_set 6 ((pd_lcA [("column", 7), ("sign", 8)] (keys) (eK) (fun k => .int k.1) (pid_list (pd_var 5)) ((by omega)) (fun k hk' => ⟨_, _, by decide, (fun _ _ _ _ _ => (pgd_tup (pgsd_cons (pgd_name 7 nd) (pgsd_cons (pgd_name 8 nd) pgsd_nil)))), fun _ _ _ _ _ => ptsd_nil, fun _ _ _ _ _ _ => ((pd_var 7))⟩) nd (blkOk_by (show blkC ["width", "found", "layer", "turn", "longer", "keys", "used", "column", "sign", "left"] (defScope (topS 57)) _ [("column", 7), ("sign", 8)] = true from by decide +kernel)))) ?_ nd
        refine sd_setLcM 9 [("column", 7)] (rg wd) (D.int) (fun c => !decide (c ∈ keys.map (·.1))) (D.int) ((by rw [← rgD_eq]; exact pid_range Z.bl.range (pd_var 0) (by omega))) ((by rw [rg_length]; omega)) (fun c hc => ⟨_, _, by decide, (fun _ _ _ _ _ => (pgd_name 7 nd)), fun _ _ _ _ _ => ptsd_one (pt_c (pcd_ninI (pd_var 7) ((pd_var 6).cast (by unfold eIs; rw [List.map_map]; rfl)))), fun hb _ _ _ _ _ => ((pd_var 7))⟩) ?_ nd (blkOk_by (show blkC ["width", "found", "layer", "turn", "longer", "keys", "used", "column", "sign", "left"] (defScope (topS 57)) _ [("column", 7)] = true from by decide +kernel))
        refine sd_ext 4 rfl (ds := (sortLayer wd [keys]).map eKs) (PD.drop 1 (PD.drop 4 (PD.cast (pd_lc2 [("column", 7), ("sign", 8)] [8] (((rg wd).filter fun c => !decide (c ∈ keys.map (·.1)))) (D.int) (fun _ => [(-1 : Int), 1]) (D.int) (fun c g => eKs (keys ++ [(c, g)])) (by decide) (pid_list (pd_var 9)) ((Nat.le_trans (List.length_filter_le _ _) (by rw [rg_length]; omega))) ((fun _ _ => by decide)) (fun c hc => ⟨_, _, by decide, rfl, (fun _ _ _ _ _ => (pgd_name 7 nd)), fun _ _ _ _ _ => (pid_tup (pd_tup (pds_cons (pd_neg pd_int) (pds_cons (pd_int) pds_nil)))), fun g hg => ⟨_, _, by decide, (fun _ _ _ _ _ => (pgd_name 8 nd)), fun _ _ _ _ _ => ((pd_cat (pd_var 5) (pd_lst (pds_cons (pd_tup (pds_cons ((pd_var 7)) (pds_cons ((pd_var 8)) pds_nil))) pds_nil)) (by rw [List.length_map, List.length_singleton]; omega)).cast (by simp))⟩⟩) nd (blkOk_by (show blkC ["width", "found", "layer", "turn", "longer", "keys", "used", "column", "sign", "left"] (defScope (topS 57)) _ [("column", 7), ("sign", 8)] = true from by decide +kernel))) (by simp [sortLayer, List.map_flatMap])))) (by rw [List.length_map, List.length_map]; omega) (sd_nil ?_)
        have e3 : sortLayer wd (p2 ++ [keys]) = sortLayer wd p2 ++ sortLayer wd [keys] := by simp [sortLayer]
        show Weak _ _
        rw [e3]
        exact (by repeat (first | exact Weak.nil | (refine Weak.cons (by first | exact WkS.refl | exact WkS.drop | exact WkS.fz | exact WkS.of_eq (by simp )) ?_)))
      · refine sd_weak (Weak.fzAt 4 rfl) ?_
        refine sd_set 2 (pd_list Z.bl.list (pd_var 4) (.inl rfl)) ?_ nd
        refine sd_ext 1 rfl (pd_var 4) (by rw [List.length_map, List.length_map]; omega) (sd_nil ?_)
        show Weak _ _
        rw [List.length_append, List.length_singleton]
        exact (by repeat (first | exact Weak.nil | (refine Weak.cons (by first | exact WkS.refl | exact WkS.drop | exact WkS.fz | exact WkS.of_eq (by simp [sortLoop])) ?_)))
    · refine sd_weak (Weak.fzAt 1 rfl) ?_
      exact sd_ret (pd_var 1) (by show D.lst _ = _; rw [List.length_range]; rfl)
theorem F_after_clicks (Z : Fx TB w K mg base Za) : FnR TB P w K mg base "after_clicks" ["sorting", "clicks"] 2 (fun ds res => ∃ (s : List Key) (cs : List Int), ds = [eKs s, eIs cs] ∧ (s.length + cs.length ≤ 90) ∧ res = eKs (afterClicks s cs)) :=
  FnR.mk' (N := ["sorting", "clicks", "found", "column"]) Z.after_clicks ⟨rfl, rfl, rfl, by decide +kernel, rfl, by decide +kernel, by decide +kernel⟩ (by
    rintro ds res ⟨s, cs, rfl, h, rfl⟩
    rfl) fun f cdv A outer s0 H0 E hr => by
    rintro ds res ⟨s, cs, rfl, h, rfl⟩
    have nd : (["sorting", "clicks", "found", "column"] : List Str).Nodup := by decide +kernel
    refine sd_set 2 (pd_list Z.bl.list (pd_var 0) (.inl rfl)) ?_ nd
    refine sd_forS cs D.int (fun pre => [.d (eKs s), .d (eIs cs), .d (eKs (afterClicks s pre)), .no]) (pid_list (pd_var 1)) rfl (fun pre a post e => ⟨_, _, (pgd_name 3 nd), ?_⟩) (sd_ret (pd_var 2) rfl)
    have h1 := afterClicks_length pre s
    have h2 : pre.length ≤ cs.length := by rw [e]; simp
    refine sd_set 2 ((pd_call (F_after_click Z) (hr.mono (by decide)) (pds_cons ((pd_var 2)) (pds_cons ((pd_var 3)) pds_nil)) ⟨_, _, rfl, by omega, rfl⟩)) ?_ nd
    refine sd_nil ?_
    show Weak _ _
    rw [afterClicks_snoc]
    exact (by repeat (first | exact Weak.nil | (refine Weak.cons (by first | exact WkS.refl | exact WkS.drop | exact WkS.fz | exact WkS.of_eq (by simp )) ?_)))
theorem F_is_sorting (Z : Fx TB w K mg base Za) : FnR TB P w K mg base "is_sorting" ["width", "sorting"] 3 (fun ds res => ∃ (wd : Nat) (s : List Key), ds = [.int wd, eKs s] ∧ (1 ≤ wd ∧ Srt wd s) ∧ res = .bl true) :=
  FnR.mk' (N := ["width", "sorting"]) Z.is_sorting ⟨rfl, rfl, rfl, by decide +kernel, rfl, by decide +kernel, by decide +kernel⟩ (by
    rintro ds res ⟨wd, s, rfl, h, rfl⟩
    rfl) fun f cdv A outer s0 H0 E hr => by
    rintro ds res ⟨wd, s, rfl, h, rfl⟩
    have nd : (["width", "sorting"] : List Str).Nodup := by decide +kernel
    refine sd_expr (pd_call (F_need_width Z) (hr.mono (by decide)) (pds_cons ((pd_var 0)) pds_nil) ⟨_, rfl, h.1, rfl⟩) ?_
    exact sd_ret (pd_call (F_is_sorting_of Z) (hr.mono (by decide)) (pds_cons ((pd_var 0)) (pds_cons ((pd_var 1)) pds_nil)) ⟨_, _, rfl, h.2.need, rfl⟩) rfl
theorem F_sortings (Z : Fx TB w K mg base Za) : FnR TB P w K mg base "sortings" ["width"] 2 (fun ds res => ∃ (wd : Nat), ds = [.int wd] ∧ (1 ≤ wd ∧ wd < 3) ∧ res = eKss (sorts wd)) :=
  FnR.mk' (N := ["width"]) Z.sortings ⟨rfl, rfl, rfl, by decide +kernel, rfl, by decide +kernel, by decide +kernel⟩ (by
    rintro ds res ⟨wd, rfl, h, rfl⟩
    rfl) fun f cdv A outer s0 H0 E hr => by
    rintro ds res ⟨wd, rfl, h, rfl⟩
    have nd : (["width"] : List Str).Nodup := by decide +kernel
    refine sd_expr (pd_call (F_need_width Z) (hr.mono (by decide)) (pds_cons ((pd_var 0)) pds_nil) ⟨_, rfl, h.1, rfl⟩) ?_
    exact sd_ret (pd_call (F_all_sortings Z) (hr.mono (by decide)) (pds_cons ((pd_var 0)) pds_nil) ⟨_, rfl, h.2, rfl⟩) rfl
theorem F_clicked (Z : Fx TB w K mg base Za) : FnR TB P w K mg base "clicked" ["width", "sorting", "clicks"] 4 (fun ds res => ∃ (wd : Nat) (s : List Key) (cs : List Int), ds = [.int wd, eKs s, eIs cs] ∧ ((1 ≤ wd ∧ Srt wd s) ∧ cs.length ≤ 40 ∧ ∀ c ∈ cs, 0 ≤ c ∧ c < wd) ∧ res = eKs (afterClicks s cs)) :=
  FnR.mk' (N := ["width", "sorting", "clicks", "column"]) Z.clicked ⟨rfl, rfl, rfl, by decide +kernel, rfl, by decide +kernel, by decide +kernel⟩ (by
    rintro ds res ⟨wd, s, cs, rfl, h, rfl⟩
    rfl) fun f cdv A outer s0 H0 E hr => by
    rintro ds res ⟨wd, s, cs, rfl, h, rfl⟩
    have nd : (["width", "sorting", "clicks", "column"] : List Str).Nodup := by decide +kernel
    obtain ⟨⟨h1, h2⟩, h3, h4⟩ := h
    refine sd_expr (pd_call (F_need_width Z) (hr.mono (by decide)) (pds_cons ((pd_var 0)) pds_nil) ⟨_, rfl, h1, rfl⟩) ?_
    refine sd_expr (pd_call (F_need_sorting Z) (hr.mono (by decide)) (pds_cons ((pd_var 0)) (pds_cons ((pd_var 1)) pds_nil)) ⟨_, _, rfl, h2.need, rfl⟩) ?_
    refine sd_forS cs D.int (fun pre => [.d (.int wd), .d (eKs s), .d (eIs cs), .no]) (pid_list (pd_var 2)) rfl (fun pre a post e => ⟨_, _, (pgd_name 3 nd), ?_⟩) (sd_ret (pd_call (F_after_clicks Z) (hr.mono (by decide)) (pds_cons ((pd_var 1)) (pds_cons ((pd_var 2)) pds_nil)) ⟨_, _, rfl, by have := h2.len; omega, rfl⟩) rfl)
    exact sd_expr (pd_call (F_need_column Z) (hr.mono (by decide)) (pds_cons ((pd_var 0)) (pds_cons ((pd_var 3)) pds_nil)) ⟨_, _, rfl, h4 a (by rw [e]; simp), rfl⟩) (sd_nil (by repeat (first | exact Weak.nil | (refine Weak.cons (by first | exact WkS.refl | exact WkS.drop | exact WkS.fz | exact WkS.of_eq (by simp )) ?_))))
theorem F_clicks_of_front (Z : Fx TB w K mg base Za) : FnR TB P w K mg base "clicks_of_front" ["sorting", "front"] 1 (fun ds res => ∃ (s fr : List Key), ds = [eKs s, eKs fr] ∧ (fr.length ≤ 100) ∧ res = eIs (clicksOfFront s fr)) :=
  FnR.mk' (N := ["sorting", "front", "found", "column", "sign", "is_turned"]) Z.clicks_of_front ⟨rfl, rfl, rfl, by decide +kernel, rfl, by decide +kernel, by decide +kernel⟩ (by
    rintro ds res ⟨s, fr, rfl, h, rfl⟩
    rfl) fun f cdv A outer s0 H0 E hr => by
    rintro ds res ⟨s, fr, rfl, h, rfl⟩
    have nd : (["sorting", "front", "found", "column", "sign", "is_turned"] : List Str).Nodup := by decide +kernel
    have hu := hr.units
    obtain ⟨st, hst⟩ : ∃ st : List Int → Key → List Int, st = fun found k => found ++ List.replicate (if k.2 = 1 ∨ (found = [] ∧ ∃ q ∈ s.head?, q.1 = k.1) then 1 else 2) k.1 := ⟨_, rfl⟩
    have hcl : clicksOfFront s fr = fr.reverse.foldl st [] := by rw [hst]; rfl
    have hlen : ∀ (l : List Key) (f : List Int), (l.foldl st f).length ≤ f.length + 2 * l.length := by
      intro l
      induction l with
      | nil => intro f; exact Nat.le_refl _
      | cons k l ih =>
        intro f
        have h1 := ih (st f k)
        have h2 : (st f k).length ≤ f.length + 2 := by
          rw [hst]
          simp only [List.length_append, List.length_replicate]
          split <;> omega
        rw [List.foldl_cons, List.length_cons]
        omega
    refine sd_own 2 ?_ nd
    refine sd_forS fr.reverse eK (fun pre => [.d (eKs s), .d (eKs fr), .o (.l ((pre.foldl st []).map D.int)), .no, .no, .no]) (by rw [List.map_reverse]; exact pid_list (pd_rev (pd_var 1))) rfl (fun pre a post e => ⟨_, _, (pgd_tup (pgsd_cons (pgd_name 3 nd) (pgsd_cons (pgd_name 4 nd) pgsd_nil))), ?_⟩) ?_
    · have hl := hlen pre []
      have hp : pre.length ≤ fr.length := by have := congrArg List.length e; simp at this; omega
      have hf : ((pre ++ [a]).foldl st []) = st (pre.foldl st []) a := by rw [List.foldl_append]; rfl
      obtain ⟨F, hF⟩ : ∃ F, F = pre.foldl st [] := ⟨_, rfl⟩
      rw [← hF] at hl hf ⊢
      refine sd_set 5 (d := .bl (decide (F = [] ∧ ∃ q ∈ s.head?, q.1 = a.1))) (pd_peek 2 rfl (PD.cast (pd_and (pd_c (pcd_eqE pn_eIs hu (x := F) (y := []) (pd_var 2) (pd_lst pds_nil))) fun z => pd_and (q := decide (∃ q ∈ s.head?, q.1 = a.1)) (pd_c (pcd_neE pn_eKs hu (x := s) (y := []) (pd_var 0) (pd_lst pds_nil))) fun z2 => pd_one ?_) ?_) rfl) ?_ nd
      · cases s with
        | nil => simp at z2
        | cons k t => exact (pd_c (pcd_eqI (pd_ix (pd_ix (d := eK k) (pd_var 0) pd_int (.inl rfl) (atI0 _ _)) pd_int (.inr rfl) (atI0 _ _)) (pd_var 3))).cast (by simp)
      · cases s <;> by_cases F = [] <;> simp [*]
      · obtain ⟨n, hn⟩ : ∃ n : Nat, n = if a.2 = 1 ∨ (F = [] ∧ ∃ q ∈ s.head?, q.1 = a.1) then 1 else 2 := ⟨_, rfl⟩
        have hn2 : n ≤ 2 := by rw [hn]; split <;> omega
        refine sd_ext 2 rfl (ds := (List.replicate n a.1).map D.int) (PD.cast (pd_rep (n := n) (pd_lst (pds_cons ((pd_var 3)) pds_nil)) (pd_if (pw_t (pwd_or (pt_c (pcd_eqI (pd_var 4) pd_int)) fun _ => pwd_or1 (pt_v (pd_var 5)))) (fun z => pd_int.cast ?_) fun z => pd_int.cast ?_) (by simp; omega) (by omega)) (by rw [flat_rep, List.map_replicate])) (by rw [List.length_map, List.length_map, List.length_replicate]; simp at hl; omega) (sd_nil ?_)
        · rw [hn, if_pos (by simpa using z)]; rfl
        · rw [hn, if_neg (by simpa using z)]; rfl
        · show Weak _ _
          have e3 : st F a = F ++ List.replicate n a.1 := by rw [hst, hn]
          rw [hf, e3]
          exact (by repeat (first | exact Weak.nil | (refine Weak.cons (by first | exact WkS.refl | exact WkS.drop | exact WkS.fz | exact WkS.of_eq (by simp )) ?_)))
    · refine sd_weak (Weak.fzAt 2 rfl) ?_
      exact sd_ret (pd_var 2) (by rw [hcl]; rfl)
theorem F_way_between (Z : Fx TB w K mg base Za) : FnR TB P w K mg base "way_between" ["sorting", "goal"] 2 (fun ds res => ∃ (s g : List Key), ds = [eKs s, eKs g] ∧ (s.length ≤ 100 ∧ g.length ≤ 100) ∧ res = eWay (wayBetween s g)) :=
  FnR.mk' (N := ["sorting", "goal", "size", "front", "column", "sign", "key"]) Z.way_between ⟨rfl, rfl, rfl, by decide +kernel, rfl, by decide +kernel, by decide +kernel⟩ (by
    rintro ds res ⟨s, g, rfl, h, rfl⟩
    rfl) fun f cdv A outer s0 H0 E hr => by
    rintro ds res ⟨s, g, rfl, h, rfl⟩
    have nd : (["sorting", "goal", "size", "front", "column", "sign", "key"] : List Str).Nodup := by decide +kernel
    obtain ⟨h1, h2⟩ := h
    have hu := hr.units
    obtain ⟨fn, hfn⟩ : ∃ fn : Nat → Option (List Int), fn = fun n => if g.drop n = s.filter (fun k => !decide (k.1 ∈ (g.take n).map (·.1))) then some (clicksOfFront s (g.take n)) else none := ⟨_, rfl⟩
    have hw : wayBetween s g = (List.range (g.length + 1)).findSome? fn := by rw [hfn]; rfl
    refine sd_forP (List.range (g.length + 1)) (fun i : Nat => D.int (i : Int)) (fun pre => [.d (eKs s), .d (eKs g), .no, .no, .no, .no, .no]) (fun pre => ∀ x ∈ pre, fn x = none) (pid_range Z.bl.range ((pd_add (pd_len Z.bl.len (pd_var 1) (.inl rfl)) pd_int).cast (by simp)) (by omega)) rfl (fun x hx => by cases hx) (fun pre a post e hP => ⟨_, _, (pgd_name 2 nd), ?_⟩) fun hP => ?_
    · refine sd_set 3 (d := eIs ((g.take a).map (·.1))) (PD.cast (pd_lcA [("column", 4), ("sign", 5)] (g.take a) (eK) (fun k => .int k.1) (pid_list ((pd_slice (pd_var 1) po_no (po_so (pd_var 2))).cast (by rw [cut_to, List.map_take]))) ((by rw [List.length_take]; omega)) (fun k hk' => ⟨_, _, by decide, (fun _ _ _ _ _ => (pgd_tup (pgsd_cons (pgd_name 4 nd) (pgsd_cons (pgd_name 5 nd) pgsd_nil)))), fun _ _ _ _ _ => ptsd_nil, fun _ _ _ _ _ _ => ((pd_var 4))⟩) nd (blkOk_by (show blkC ["sorting", "goal", "size", "front", "column", "sign", "key"] (defScope (topS 65)) _ [("column", 4), ("sign", 5)] = true from by decide +kernel))) (by unfold eIs; rw [List.map_map]; rfl)) ?_ nd
      refine sd_when (pt_c (pcd_eqE pn_eKs hu (x := g.drop a) (y := s.filter fun k => !decide (k.1 ∈ (g.take a).map (·.1))) ((pd_slice (pd_var 1) (po_so (pd_var 2)) po_no).cast (by rw [cut_from, ← List.map_drop])) (pd_lcM [("key", 6)] (s) (eK) ((fun k => !decide (k.1 ∈ (g.take a).map (·.1)))) (eK) (pid_list (pd_var 0)) ((by omega)) (fun k hk' => ⟨_, _, by decide, (fun _ _ _ _ _ => (pgd_name 6 nd)), fun _ _ _ _ _ => ptsd_one (pt_c (pcd_ninI (pd_ix (pd_var 6) pd_int (.inr rfl) (atI0 _ _)) (pd_var 3))), fun hb _ _ _ _ _ => ((pd_var 6))⟩) nd (blkOk_by (show blkC ["sorting", "goal", "size", "front", "column", "sign", "key"] (defScope (topS 65)) _ [("key", 6)] = true from by decide +kernel))))) (fun z => ?_) fun z => ?_
      · have z := of_decide_eq_true z
        refine sd_ret (d := eWay (some (clicksOfFront s (g.take a)))) (pd_call (F_clicks_of_front Z) (hr.mono (by decide)) (pds_cons ((pd_var 0)) (pds_cons ((pd_slice (pd_var 1) po_no (po_so (pd_var 2))).cast (by rw [cut_to, ← List.map_take])) pds_nil)) ⟨s, g.take a, rfl, by rw [List.length_take]; omega, rfl⟩) ?_
        have e4 : wayBetween s g = some (clicksOfFront s (g.take a)) := by
          rw [hw, e, List.findSome?_append, List.findSome?_eq_none_iff.mpr hP, List.findSome?_cons]
          have : fn a = some (clicksOfFront s (g.take a)) := by rw [hfn]; exact if_pos z
          rw [this]
          rfl
        show _ = _
        rw [e4]
      · have z := of_decide_eq_false z
        refine sd_nil ⟨(by repeat (first | exact Weak.nil | (refine Weak.cons (by first | exact WkS.refl | exact WkS.drop | exact WkS.fz | exact WkS.of_eq (by simp )) ?_))), fun x hx => ?_⟩
        rcases List.mem_append.mp hx with hx | hx
        · exact hP x hx
        · rw [List.mem_singleton.mp hx, hfn]
          exact if_neg z
    · refine sd_ret pd_non ?_
      have e4 : wayBetween s g = none := by rw [hw]; exact List.findSome?_eq_none_iff.mpr hP
      show _ = _
      rw [e4]
      rfl
theorem F_need_two (Z : Fx TB w K mg base Za) : FnR TB P w K mg base "need_two" ["width", "sorting", "goal"] 4 (fun ds res => ∃ (wd : Nat) (s g : List Key), ds = [.int wd, eKs s, eKs g] ∧ (1 ≤ wd ∧ Srt wd s ∧ Srt wd g) ∧ res = .non) :=
  FnR.mk' (N := ["width", "sorting", "goal"]) Z.need_two ⟨rfl, rfl, rfl, by decide +kernel, rfl, by decide +kernel, by decide +kernel⟩ (by
    rintro ds res ⟨wd, s, g, rfl, h, rfl⟩
    rfl) fun f cdv A outer s0 H0 E hr => by
    rintro ds res ⟨wd, s, g, rfl, h, rfl⟩
    have nd : (["width", "sorting", "goal"] : List Str).Nodup := by decide +kernel
    refine sd_expr (pd_call (F_need_width Z) (hr.mono (by decide)) (pds_cons ((pd_var 0)) pds_nil) ⟨_, rfl, h.1, rfl⟩) ?_
    refine sd_expr (pd_call (F_need_sorting Z) (hr.mono (by decide)) (pds_cons ((pd_var 0)) (pds_cons ((pd_var 1)) pds_nil)) ⟨_, _, rfl, h.2.1.need, rfl⟩) ?_
    exact sd_expr (pd_call (F_need_sorting Z) (hr.mono (by decide)) (pds_cons ((pd_var 0)) (pds_cons ((pd_var 2)) pds_nil)) ⟨_, _, rfl, h.2.2.need, rfl⟩) (sd_nil rfl)
theorem F_first_way (Z : Fx TB w K mg base Za) : FnR TB P w K mg base "first_way" ["width", "sorting", "goal"] 5 (fun ds res => ∃ (wd : Nat) (s g : List Key), ds = [.int wd, eKs s, eKs g] ∧ (1 ≤ wd ∧ Srt wd s ∧ Srt wd g) ∧ res = eWay (wayBetween s g)) :=
  FnR.mk' (N := ["width", "sorting", "goal"]) Z.first_way ⟨rfl, rfl, rfl, by decide +kernel, rfl, by decide +kernel, by decide +kernel⟩ (by
    rintro ds res ⟨wd, s, g, rfl, h, rfl⟩
    rfl) fun f cdv A outer s0 H0 E hr => by
    rintro ds res ⟨wd, s, g, rfl, h, rfl⟩
    have nd : (["width", "sorting", "goal"] : List Str).Nodup := by decide +kernel
    refine sd_expr (pd_call (F_need_two Z) (hr.mono (by decide)) (pds_cons ((pd_var 0)) (pds_cons ((pd_var 1)) (pds_cons ((pd_var 2)) pds_nil))) ⟨_, _, _, rfl, h, rfl⟩) ?_
    exact sd_ret (pd_call (F_way_between Z) (hr.mono (by decide)) (pds_cons ((pd_var 1)) (pds_cons ((pd_var 2)) pds_nil)) ⟨_, _, rfl, ⟨by have := h.2.1.len; omega, by have := h.2.2.len; omega⟩, rfl⟩) rfl
theorem isNon_way (o : Option (List Int)) : isNon (eWay o) = o.isNone := by cases o <;> rfl
theorem F_distance (Z : Fx TB w K mg base Za) : FnR TB P w K mg base "distance" ["width", "sorting", "goal"] 5 (fun ds res => ∃ (wd : Nat) (s g : List Key), ds = [.int wd, eKs s, eKs g] ∧ (1 ≤ wd ∧ Srt wd s ∧ Srt wd g) ∧ res = eO (fun l : List Int => D.int (l.length : Nat)) (wayBetween s g)) :=
  FnR.mk' (N := ["width", "sorting", "goal", "found"]) Z.distance ⟨rfl, rfl, rfl, by decide +kernel, rfl, by decide +kernel, by decide +kernel⟩ (by
    rintro ds res ⟨wd, s, g, rfl, h, rfl⟩
    rfl) fun f cdv A outer s0 H0 E hr => by
    rintro ds res ⟨wd, s, g, rfl, h, rfl⟩
    have nd : (["width", "sorting", "goal", "found"] : List Str).Nodup := by decide +kernel
    refine sd_expr (pd_call (F_need_two Z) (hr.mono (by decide)) (pds_cons ((pd_var 0)) (pds_cons ((pd_var 1)) (pds_cons ((pd_var 2)) pds_nil))) ⟨_, _, _, rfl, h, rfl⟩) ?_
    refine sd_set 3 ((pd_call (F_way_between Z) (hr.mono (by decide)) (pds_cons ((pd_var 1)) (pds_cons ((pd_var 2)) pds_nil)) ⟨_, _, rfl, ⟨by have := h.2.1.len; omega, by have := h.2.2.len; omega⟩, rfl⟩)) ?_ nd
    cases hw : wayBetween s g with
    | none => exact sd_ret (pd_if (pt_c (pcd_isN (pd_var 3))) (fun _ => pd_non) fun z => by cases z) rfl
    | some l => exact sd_ret (pd_if (pt_c (pcd_isN (pd_var 3))) (fun z => by cases z) fun z => (pd_len Z.bl.len (ds := l.map D.int) ((pd_var 3).cast rfl) (.inl rfl)).cast (by rw [List.length_map]; rfl)) rfl
end
end Lw
set_option Elab.async false
set_option linter.all false
set_option maxRecDepth 100000
set_option maxHeartbeats 4000000
/-! # orders -/
namespace Lw
open PySem PySem.Spec PyProof.Rows L2 LamX NdefX
def cellAt (rows : List (List Int)) (i c : Int) : Int := ((rows[i.toNat]?.getD [])[c.toNat]?).getD 0
def rowKey (rows : List (List Int)) (s : List Key) (i : Int) : List Int := (s.map fun k => k.2 * cellAt rows i k.1) ++ [i]
def orderIn (rows : List (List Int)) (s : List Key) : List Int := (rg rows.length).mergeSort fun i j => decide (rowKey rows s i ≤ rowKey rows s j)
theorem orderIn_perm (rows : List (List Int)) (s : List Key) : (orderIn rows s).Perm (rg rows.length) := List.mergeSort_perm _ _
theorem orderIn_length (rows : List (List Int)) (s : List Key) : (orderIn rows s).length = rows.length := by rw [(orderIn_perm rows s).length_eq, rg_length]
section
variable {TB : Tbs} {P : Program} {w : World} {K : PySem.W.Frag} {mg : Str → Option Value} {base : Heap} {Za : Ads}
theorem F_order_in (Z : Fx TB w K mg base Za) : FnR TB P w K mg base "order_in" ["rows", "sorting"] 4 (fun ds res => ∃ (wd : Nat) (rows : List (List Int)) (s : List Key), ds = [eRs rows, eKs s] ∧ ((rows.length ≤ 900 ∧ ∀ r ∈ rows, r.length = wd) ∧ Srt wd s) ∧ res = eIs (orderIn rows s)) :=
  FnR.mkL (N := ["rows", "sorting", "numbers"]) Z.order_in ⟨rfl, rfl, rfl, by decide +kernel, rfl, by decide +kernel, by decide +kernel⟩ (by
    rintro ds res ⟨wd, rows, s, rfl, h, rfl⟩
    rfl) fun f c Pt A outer s0 H0 E hr tb hT hu => by
    rintro ds res ⟨wd, rows, s, rfl, h, rfl⟩
    have nd : (["rows", "sorting", "numbers"] : List Str).Nodup := by decide +kernel
    obtain ⟨⟨h1, h2⟩, h3⟩ := h
    refine sd_set 2 (d := eIs (rg rows.length)) ((pd_listRg Z.bl.list Z.bl.range ((pd_len Z.bl.len (pd_var 0) (.inl rfl)).cast (by rw [List.length_map])) (by omega)).cast (by rw [rgD_eq])) ?_ nd
    refine sd_ret (pd_sortedKey (k := 0) (N := ["row", "rows", "sorting", "column", "sign"]) (fr := ["rows", "sorting"]) (js := [0, 1]) (caps := [eRs rows, eKs s]) (rowKey rows s) tb rfl hT hu (show ndefB (defScope (topS 59)) _ ["rows", "sorting"] = true from by decide +kernel) rfl ⟨rfl, rfl, rfl, rfl, ⟨_, rfl, by decide⟩, by decide, by decide⟩ (by decide) (fun cells c z => ?_) hr Z.bl.sorted (pd_var 2) (by rw [rg_length]; omega) (fun _ _ _ _ _ _ => rfl) rfl (fun i j c a b => ?_) fun i hi f' c' cs A' s' H' cl hr' => ?_) rfl
    · have e : (cloFrom cells [(("row" : Str), NameKind.cell), ("rows", NameKind.free), ("sorting", NameKind.free)] []).lookup (Str.ofString "row") = none := rfl
      exact absurd (e.symm.trans z) (fun y => by cases y)
    · match i, a, b with
      | 0, a, b => cases a; cases b; rfl
      | 1, a, b => cases a; cases b; rfl
    · have nd' : (["row", "rows", "sorting", "column", "sign"] : List Str).Nodup := by decide +kernel
      obtain ⟨i0, i1⟩ := mem_rg.mp hi
      have hi' : i.toNat < rows.length := by omega
      refine PD.cast (pd_cat (pd_lcA [("column", 3), ("sign", 4)] s eK (fun k => .int (k.2 * cellAt rows i k.1)) (pid_list (pd_var 2)) (by have := h3.len; omega) (fun k hk => ⟨_, _, by decide, (fun _ _ _ _ _ => (pgd_tup (pgsd_cons (pgd_name 3 nd') (pgsd_cons (pgd_name 4 nd') pgsd_nil)))), fun _ _ _ _ _ => ptsd_nil, fun _ _ _ _ _ _ => ?_⟩) nd' (blkOk_by ?_)) (pd_lst (pds_cons (pd_var 0) pds_nil)) (by have := h3.len; simp; omega)) ?_
      · have k0 := (h3.keyed.2 k hk).1
        have k1 := h3.inw k hk
        have ks := (h3.keyed.2 k hk).2
        have hrow := h2 _ (List.getElem_mem hi')
        have hc' : k.1.toNat < rows[i.toNat].length := by omega
        refine (pd_mul (pd_var 4) (pd_ix (d := .int (cellAt rows i k.1)) (pd_ix (d := eIs rows[i.toNat]) (pd_var 1) (pd_var 0) (.inl rfl) (atI_int i0 ?_)) (pd_var 3) (.inl rfl) (atI_int k0 ?_)) ?_)
        · rw [List.getElem?_map, List.getElem?_eq_getElem hi']; rfl
        · rw [List.getElem?_map, List.getElem?_eq_getElem hc']
          show some (D.int _) = some (D.int (((rows[i.toNat]?.getD [])[k.1.toNat]?).getD 0))
          rw [List.getElem?_eq_getElem hi', Option.getD_some, List.getElem?_eq_getElem hc', Option.getD_some]
        · rcases ks with e | e <;> rw [e] <;> exact cmul_s (by decide) (by decide)
      · kernel_rfl
      · unfold rowKey
        simp [List.map_append, List.map_map, Function.comp_def]
end
end Lw
set_option Elab.async false
set_option linter.all false
set_option maxRecDepth 100000
set_option maxHeartbeats 4000000
/-! # orders of tables, nearest ways -/
namespace Lw
open PySem PySem.Spec PyProof.Rows L2 LamX NdefX
def wayLt (a b : List Int) : Bool := if (a.length : Int) = b.length then (if a = b then false else decide (a < b)) else decide ((a.length : Int) < b.length)
def fstOf : List (List Int) → Option (List Int)
  | [] => none
  | b :: r => some (bestOf wayLt b r)
def firstOf (ways : List (Option (List Int))) : Option (List Int) := fstOf (ways.filterMap id)
def showing (wd : Nat) (rows : List (List Int)) (o : List Int) : List (List Key) := (sorts wd).filter fun s => decide (orderIn rows s = o)
def nearestWay (wd : Nat) (rows : List (List Int)) (s : List Key) (o : List Int) : Option (List Int) := firstOf ((showing wd rows o).map fun g => wayBetween s g)
theorem srt_iff {w : Nat} {s : List Key} : Srt w s ↔ Keyed s ∧ s.length ≤ 50 ∧ ∀ k ∈ s, k.1 < w := ⟨fun h => ⟨h.keyed, h.len, h.inw⟩, fun h => ⟨h.1, h.2.1, h.2.2⟩⟩
theorem sorts_srt1 : ∀ s ∈ sorts 1, Keyed s ∧ s.length ≤ 50 ∧ ∀ k ∈ s, k.1 < ((1 : Nat) : Int) := by decide +kernel
theorem sorts_srt2 : ∀ s ∈ sorts 2, Keyed s ∧ s.length ≤ 50 ∧ ∀ k ∈ s, k.1 < ((2 : Nat) : Int) := by decide +kernel
theorem sorts_srt {w : Nat} (h1 : 1 ≤ w) (h2 : w ≤ 2) : ∀ s ∈ sorts w, Srt w s := fun s hs => by
  rcases (show w = 1 ∨ w = 2 by omega) with rfl | rfl
  · exact srt_iff.mpr (sorts_srt1 s hs)
  · exact srt_iff.mpr (sorts_srt2 s hs)
theorem sorts_few {w : Nat} (h : w ≤ 2) : (sorts w).length ≤ 60 := by
  have := (sortLoop_small w (by omega) w (by omega)).1
  exact this
theorem way_toPy (b : List Int) : toPy (.tup [.int (b.length : Nat), eIs b]) = .tuple [.int (b.length : Nat), .list (b.map .int)] := by
  rw [toPy_tup, toPys_cons, toPys_cons, toPy_eIs]
  simp [toPy, toPys]
theorem way_lt (a b : List Int) : PySem.W.dataLt (toPy (.tup [.int (a.length : Nat), eIs a])) (toPy (.tup [.int (b.length : Nat), eIs b])) = wayLt a b := by
  rw [way_toPy, way_toPy, PySem.W.dataLt_tuple]
  have e := dlt_int (a.length : Nat) (b.length : Nat) [.list (a.map .int)] [.list (b.map .int)]
  unfold PySem.W.rowLt at e
  rw [e]
  have e2 := dlt_ints a b [] []
  unfold PySem.W.rowLt at e2
  rw [e2]
  have e3 := dlt_nil
  unfold PySem.W.rowLt at e3
  rw [e3]
  rfl
theorem way_alike (a b : List Int) : PySem.W.alike (toPy (.tup [.int (a.length : Nat), eIs a])) (toPy (.tup [.int (b.length : Nat), eIs b])) = true := by
  rw [way_toPy, way_toPy]
  simp [PySem.W.alike, PySem.W.alikeAll, alikeAll_int]
theorem pn_wayKey : ∀ b : List Int, pln 2 (.tup [.int (b.length : Nat), eIs b]) = true := fun b => by
  have := pn_eIs.pl b
  simp only [pln, List.all_cons, List.all_nil, Bool.and_true, Bool.true_and]
  exact this
theorem ways_some (ways : List (Option (List Int))) : (ways.filter fun o => !(isNon (eWay o))).map eWay = (ways.filterMap id).map eIs := by
  induction ways with
  | nil => rfl
  | cons o l ih =>
    cases o with
    | none => simpa [isNon, eO] using ih
    | some w => simpa [isNon, eO] using ih
section
variable {TB : Tbs} {P : Program} {w : World} {K : PySem.W.Frag} {mg : Str → Option Value} {base : Heap} {Za : Ads}
theorem F_order_of (Z : Fx TB w K mg base Za) : FnR TB P w K mg base "order_of" ["table", "sorting"] 5 (fun ds res => ∃ (wd : Nat) (rows : List (List Int)) (s : List Key), ds = [eTable Za wd rows, eKs s] ∧ (Tb wd rows ∧ Srt wd s) ∧ res = eIs (orderIn rows s)) :=
  FnR.mk' (N := ["table", "sorting"]) Z.order_of ⟨rfl, rfl, rfl, by decide +kernel, rfl, by decide +kernel, by decide +kernel⟩ (by
    rintro ds res ⟨wd, rows, s, rfl, h, rfl⟩
    rfl) fun f cdv A outer s0 H0 E hr => by
    rintro ds res ⟨wd, rows, s, rfl, h, rfl⟩
    have nd : (["table", "sorting"] : List Str).Nodup := by decide +kernel
    refine sd_expr (pd_call (F_need_sorting Z) (hr.mono (by decide)) (pds_cons ((pd_prop (F_Table_width Z) (hr.mono (by decide)) ((pd_var 0)) ⟨_, _, rfl, True.intro, rfl⟩)) (pds_cons ((pd_var 1)) pds_nil)) ⟨_, _, rfl, h.2.need, rfl⟩) ?_
    have := h.1.few
    exact sd_ret (pd_call (F_order_in Z) (hr.mono (by decide)) (pds_cons ((pd_prop (F_Table_rows Z) (hr.mono (by decide)) ((pd_var 0)) ⟨_, _, rfl, by omega, rfl⟩)) (pds_cons ((pd_var 1)) pds_nil)) ⟨wd, rows, s, rfl, ⟨⟨by omega, h.1.each⟩, h.2⟩, rfl⟩) rfl
theorem F_showing (Z : Fx TB w K mg base Za) : FnR TB P w K mg base "showing" ["table", "order"] 5 (fun ds res => ∃ (wd : Nat) (rows : List (List Int)) (o : List Int), ds = [eTable Za wd rows, eIs o] ∧ (Tb wd rows) ∧ res = eKss (showing wd rows o)) :=
  FnR.mk' (N := ["table", "order", "rows", "sorting"]) Z.showing ⟨rfl, rfl, rfl, by decide +kernel, rfl, by decide +kernel, by decide +kernel⟩ (by
    rintro ds res ⟨wd, rows, o, rfl, h, rfl⟩
    rfl) fun f cdv A outer s0 H0 E hr => by
    rintro ds res ⟨wd, rows, o, rfl, h, rfl⟩
    have nd : (["table", "order", "rows", "sorting"] : List Str).Nodup := by decide +kernel
    have hu := hr.units
    have hf := h.few
    refine sd_set 2 ((pd_prop (F_Table_rows Z) (hr.mono (by decide)) ((pd_var 0)) ⟨_, _, rfl, by omega, rfl⟩)) ?_ nd
    exact sd_ret (pd_lcM [("sorting", 3)] (sorts wd) (eKs) ((fun s => decide (orderIn rows s = o))) (eKs) ((pid_list (pd_call (F_all_sortings Z) (hr.mono (by decide)) (pds_cons ((pd_prop (F_Table_width Z) (hr.mono (by decide)) ((pd_var 0)) ⟨_, _, rfl, True.intro, rfl⟩)) pds_nil) ⟨_, rfl, by have := h.wide; omega, rfl⟩))) ((Nat.le_trans (sorts_few h.wide) (by decide))) (fun s hs => ⟨_, _, by decide, (fun _ _ _ _ _ => (pgd_name 3 nd)), fun _ _ _ _ _ => ptsd_one (pt_c (pcd_eqE pn_eIs hu (pd_call (F_order_in Z) (hr.mono (by decide)) (pds_cons ((pd_var 2)) (pds_cons ((pd_var 3)) pds_nil)) ⟨wd, rows, s, rfl, ⟨⟨by omega, h.each⟩, sorts_srt h.pos h.wide s hs⟩, rfl⟩) (pd_var 1))), fun hb _ _ _ _ _ => ((pd_var 3))⟩) nd (blkOk_by (show blkC ["table", "order", "rows", "sorting"] (defScope (topS 70)) _ [("sorting", 3)] = true from by decide +kernel))) rfl
theorem F_first_of (Z : Fx TB w K mg base Za) : FnR TB P w K mg base "first_of" ["ways"] 3 (fun ds res => ∃ (ways : List (Option (List Int))), ds = [.lst (ways.map eWay)] ∧ (ways.length ≤ 1000) ∧ res = eWay (firstOf ways)) :=
  FnR.mkL (N := ["ways", "found", "way"]) Z.first_of ⟨rfl, rfl, rfl, by decide +kernel, rfl, by decide +kernel, by decide +kernel⟩ (by
    rintro ds res ⟨ways, rfl, h, rfl⟩
    rfl) fun f c Pt A outer s0 H0 E hr tb hT hu => by
    rintro ds res ⟨ways, rfl, h, rfl⟩
    have nd : (["ways", "found", "way"] : List Str).Nodup := by decide +kernel
    have hu0 := hr.units
    refine sd_setLcM 1 [("way", 2)] (ways) (eWay) ((fun o => !(isNon (eWay o)))) (eWay) (pid_list (pd_var 0)) ((by omega)) (fun o ho => ⟨_, _, by decide, (fun _ _ _ _ _ => (pgd_name 2 nd)), fun _ _ _ _ _ => ptsd_one (pt_c (pcd_notN (pd_var 2))), fun hb _ _ _ _ _ => ((pd_var 2))⟩) ?_ nd (blkOk_by (show blkC ["ways", "found", "way"] (defScope (topS 71)) _ [("way", 2)] = true from by decide +kernel))
    rw [ways_some]
    obtain ⟨bs, hbs⟩ : ∃ bs, bs = ways.filterMap id := ⟨_, rfl⟩
    have hfo : firstOf ways = fstOf bs := by rw [hbs]; rfl
    rw [← hbs]
    refine sd_ret (d := eWay (firstOf ways)) (pd_if (pt_c (pcd_neE pn_eRs hu0 (x := bs) (y := []) (pd_var 1) (pd_lst pds_nil))) (fun z => ?_) fun z => ?_) rfl
    · cases bs with
      | nil => simp at z
      | cons b0 r =>
        rw [hfo]
        refine pd_minKey (k := 0) (N := ["way"]) (bs := b0 :: r) eIs (fun b => .tup [.int (b.length : Nat), eIs b]) wayLt rfl tb rfl hT hu (show ndefB (defScope (topS 71)) _ [] = true from by decide +kernel) (nscope_by (show nscB ["way"] ["way"] [] _ = true from by decide +kernel)) hr Z.bl.min (pd_var 1) (fun b _ => pln_mono (by decide) (pn_wayKey b)) (fun b _ b' _ => way_alike b b') (fun b _ z => by rw [way_toPy] at z; cases z) (fun b _ b' _ => way_lt b b') (fun _ _ _ _ _ _ => rfl) fun b hb f' c' cs A' s' H' cl hr' => ?_
        exact pd_tup (pds_cons ((pd_len Z.bl.len (ds := b.map D.int) (pd_var 0) (.inl rfl)).cast (by rw [List.length_map])) (pds_cons (pd_var 0) pds_nil))
    · cases bs with
      | cons b0 r => simp at z
      | nil =>
        rw [hfo]
        exact pd_non
theorem F_nearest (Z : Fx TB w K mg base Za) : FnR TB P w K mg base "nearest" ["table", "sorting", "order"] 7 (fun ds res => ∃ (wd : Nat) (rows : List (List Int)) (s : List Key) (o : List Int), ds = [eTable Za wd rows, eKs s, eIs o] ∧ ((Tb wd rows ∧ Srt wd s) ∧ o.Perm (rg rows.length)) ∧ res = eWay (nearestWay wd rows s o)) :=
  FnR.mk' (N := ["table", "sorting", "order", "goal"]) Z.nearest ⟨rfl, rfl, rfl, by decide +kernel, rfl, by decide +kernel, by decide +kernel⟩ (by
    rintro ds res ⟨wd, rows, s, o, rfl, h, rfl⟩
    rfl) fun f cdv A outer s0 H0 E hr => by
    rintro ds res ⟨wd, rows, s, o, rfl, h, rfl⟩
    have nd : (["table", "sorting", "order", "goal"] : List Str).Nodup := by decide +kernel
    obtain ⟨⟨h1, h2⟩, h3⟩ := h
    have hf := h1.few
    have hsh : (showing wd rows o).length ≤ 60 := Nat.le_trans (List.length_filter_le _ _) (sorts_few h1.wide)
    refine sd_expr (pd_call (F_need_sorting Z) (hr.mono (by decide)) (pds_cons ((pd_prop (F_Table_width Z) (hr.mono (by decide)) ((pd_var 0)) ⟨_, _, rfl, True.intro, rfl⟩)) (pds_cons ((pd_var 1)) pds_nil)) ⟨_, _, rfl, h2.need, rfl⟩) ?_
    refine sd_expr (pd_call (F_need_order Z) (hr.mono (by decide)) (pds_cons ((pd_lenO (n := rows.length) (F_Table_len Z) (hr.mono (by decide)) Z.bl.len ((pd_var 0)) ⟨_, _, rfl, True.intro, rfl⟩ (by omega))) (pds_cons ((pd_var 2)) pds_nil)) ⟨_, _, rfl, ⟨h3, by omega⟩, rfl⟩) ?_
    exact sd_ret (pd_call (F_first_of Z) (hr.mono (by decide)) (pds_cons (((pd_lcA [("goal", 3)] (showing wd rows o) (eKs) (fun g => eWay (wayBetween s g)) ((pid_list (pd_call (F_showing Z) (hr.mono (by decide)) (pds_cons ((pd_var 0)) (pds_cons ((pd_var 2)) pds_nil)) ⟨_, _, _, rfl, h1, rfl⟩))) ((by omega)) (fun g hg => ⟨_, _, by decide, (fun _ _ _ _ _ => (pgd_name 3 nd)), fun _ _ _ _ _ => ptsd_nil, fun _ _ _ _ _ _ => ((pd_call (F_way_between Z) (hr.mono (by decide)) (pds_cons ((pd_var 1)) (pds_cons ((pd_var 3)) pds_nil)) ⟨_, _, rfl, ⟨by have := h2.len; omega, by have := (sorts_srt h1.pos h1.wide g (List.mem_filter.mp hg).1).len; omega⟩, rfl⟩))⟩) nd (blkOk_by (show blkC ["table", "sorting", "order", "goal"] (defScope (topS 72)) _ [("goal", 3)] = true from by decide +kernel)))).cast (by rw [List.map_map]; rfl)) pds_nil) ⟨_, rfl, by rw [List.length_map]; omega, rfl⟩) rfl
theorem F_way_to_order (Z : Fx TB w K mg base Za) : FnR TB P w K mg base "way_to_order" ["table", "sorting", "order"] 7 (fun ds res => ∃ (wd : Nat) (rows : List (List Int)) (s : List Key) (o : List Int), ds = [eTable Za wd rows, eKs s, eIs o] ∧ (Tb wd rows ∧ Srt wd s) ∧ res = eWay (nearestWay wd rows s o)) :=
  FnR.mk' (N := ["table", "sorting", "order", "goal"]) Z.way_to_order ⟨rfl, rfl, rfl, by decide +kernel, rfl, by decide +kernel, by decide +kernel⟩ (by
    rintro ds res ⟨wd, rows, s, o, rfl, h, rfl⟩
    rfl) fun f cdv A outer s0 H0 E hr => by
    rintro ds res ⟨wd, rows, s, o, rfl, h, rfl⟩
    have nd : (["table", "sorting", "order", "goal"] : List Str).Nodup := by decide +kernel
    obtain ⟨h1, h2⟩ := h
    have hf := h1.few
    have hsh : (showing wd rows o).length ≤ 60 := Nat.le_trans (List.length_filter_le _ _) (sorts_few h1.wide)
    exact sd_ret (pd_call (F_first_of Z) (hr.mono (by decide)) (pds_cons (((pd_lcA [("goal", 3)] (showing wd rows o) (eKs) (fun g => eWay (wayBetween s g)) ((pid_list (pd_call (F_showing Z) (hr.mono (by decide)) (pds_cons ((pd_var 0)) (pds_cons ((pd_var 2)) pds_nil)) ⟨_, _, _, rfl, h1, rfl⟩))) ((by omega)) (fun g hg => ⟨_, _, by decide, (fun _ _ _ _ _ => (pgd_name 3 nd)), fun _ _ _ _ _ => ptsd_nil, fun _ _ _ _ _ _ => ((pd_call (F_way_between Z) (hr.mono (by decide)) (pds_cons ((pd_var 1)) (pds_cons ((pd_var 3)) pds_nil)) ⟨_, _, rfl, ⟨by have := h2.len; omega, by have := (sorts_srt h1.pos h1.wide g (List.mem_filter.mp hg).1).len; omega⟩, rfl⟩))⟩) nd (blkOk_by (show blkC ["table", "sorting", "order", "goal"] (defScope (topS 130)) _ [("goal", 3)] = true from by decide +kernel)))).cast (by rw [List.map_map]; rfl)) pds_nil) ⟨_, rfl, by rw [List.length_map]; omega, rfl⟩) rfl
end
end Lw
set_option Elab.async false
set_option linter.all false
set_option maxRecDepth 100000
set_option maxHeartbeats 4000000
/-! # marking -/
namespace Lw
open PySem PySem.Spec PyProof.Rows L2
def sortI (l : List Int) : List Int := l.mergeSort fun a b => decide (a ≤ b)
theorem sortI_perm (l : List Int) : (sortI l).Perm l := List.mergeSort_perm _ _
theorem sortI_sorted (l : List Int) : (sortI l).Pairwise (· ≤ ·) := by
  have := List.pairwise_mergeSort (le := fun a b : Int => decide (a ≤ b)) (fun a b c h1 h2 => by simp at *; omega) (fun a b => by simp; omega) l
  exact this.imp fun h => by simpa using h
def segOf (there : List Int) (a : Int) (p : Nat) : List Int := (there.drop (min (there.idxOf a) p)).take (max (there.idxOf a) p + 1 - min (there.idxOf a) p)
def markRange (there marks : List Int) (a : Int) (p : Nat) : List Int := (segOf there a p).foldl (fun f o => if a ∈ marks then addT f o else delT f o) marks
def markClick (marks : List Int) (row : Int) : List Int := if row ∈ marks then delT marks row else addT marks row
def markStep (there marks : List Int) (anchor : Option Int) (c : Str × Int) : List Int × Option Int :=
  if c.1 = "range" then (sortI (markRange there marks (anchor.getD 0) c.2.toNat), anchor) else (sortI (markClick marks (there[c.2.toNat]?.getD 0)), some (there[c.2.toNat]?.getD 0))
/-- a click that may be made -/
structure ClickOk (there : List Int) (anchor : Option Int) (c : Str × Int) : Prop where
  pos : 0 ≤ c.2 ∧ c.2 < there.length
  word : c.1 = "click" ∨ (c.1 = "range" ∧ ∃ a, anchor = some a ∧ a ∈ there)
theorem pn_word {s : Str} (h : s = "click" ∨ s = "range") : pln 0 (.str s) = true := by
  rcases h with rfl | rfl <;> decide +kernel
theorem delT_length (ks : List Int) (i : Int) : (delT ks i).length ≤ ks.length := List.length_filter_le _ _
section
variable {TB : Tbs} {P : Program} {w : World} {K : PySem.W.Frag} {mg : Str → Option Value} {base : Heap} {Za : Ads}
theorem F_check_clicks (Z : Fx TB w K mg base Za) : FnR TB P w K mg base "check_clicks" ["there", "clicks"] 1 (fun ds res => ∃ (t : List Int) (cs : List (Str × Int)), ds = [eIs t, eCs cs] ∧ (∀ c ∈ cs, (0 ≤ c.2 ∧ c.2 < t.length) ∧ (c.1 = "click" ∨ c.1 = "range")) ∧ res = .non) :=
  FnR.mk' (N := ["there", "clicks", "click", "word", "position"]) Z.check_clicks ⟨rfl, rfl, rfl, by decide +kernel, rfl, by decide +kernel, by decide +kernel⟩ (by
    rintro ds res ⟨t, cs, rfl, h, rfl⟩
    rfl) fun f cdv A outer s0 H0 E hr => by
    rintro ds res ⟨t, cs, rfl, h, rfl⟩
    have nd : (["there", "clicks", "click", "word", "position"] : List Str).Nodup := by decide +kernel
    refine sd_forS cs eC (fun _ => [.d (eIs t), .d (eCs cs), .no, .no, .no]) (pid_list (pd_var 1)) rfl (fun pre a post e => ⟨_, _, (pgd_name 2 nd), ?_⟩) ?_
    · have ha := h a (by rw [e]; simp)
      refine sd_check ((pw_t (pwd_or (q := false) ((pt_c (pcd_neI (pd_len Z.bl.len (pd_var 2) (.inr rfl)) pd_int)).cast rfl) fun _ => pwd_or1 ((pt_c (pcd_notIn (pd_ix (d := .str a.1) (pd_var 2) pd_int (.inr rfl) (atI0 _ _)) (pd_tup (pds_cons (pd_gS Z.CLICK) (pds_cons (pd_gS Z.RANGE) pds_nil))) (.inr rfl) (pn_word ha.2) (by decide +kernel) (t := true) (by simp; rcases ha.2 with z | z <;> simp [z]))).cast rfl))).cast rfl) (sd_nil (by repeat (first | exact Weak.nil | (refine Weak.cons (by first | exact WkS.refl | exact WkS.drop | exact WkS.fz | exact WkS.of_eq (by simp )) ?_))))
    · refine sd_forS cs eC (fun _ => [.d (eIs t), .d (eCs cs), .no, .no, .no]) (pid_list (pd_var 1)) rfl (fun pre a post e => ⟨_, _, (pgd_tup (pgsd_cons (pgd_name 3 nd) (pgsd_cons (pgd_name 4 nd) pgsd_nil))), ?_⟩) (sd_nil rfl)
      have ha := h a (by rw [e]; simp)
      exact sd_check ((pt_not' (pt_chain' op_le op_lt pd_int (pd_var 4) (pd_len Z.bl.len (pd_var 0) (.inl rfl)))).cast (by simp [ha.1.1, ha.1.2])) (sd_nil (by repeat (first | exact Weak.nil | (refine Weak.cons (by first | exact WkS.refl | exact WkS.drop | exact WkS.fz | exact WkS.of_eq (by simp )) ?_))))
theorem F_places_of (Z : Fx TB w K mg base Za) : FnR TB P w K mg base "places_of" ["there"] 1 (fun ds res => ∃ (t : List Int), ds = [eIs t] ∧ (t.Nodup ∧ t.length ≤ 1000) ∧ res = .dic (t.zipIdx.map fun q => Sum.inl q.1) (t.zipIdx.map fun q => D.int ((q.2 : Nat) : Int))) :=
  FnR.mk' (N := ["there", "place", "row"]) Z.places_of ⟨rfl, rfl, rfl, by decide +kernel, rfl, by decide +kernel, by decide +kernel⟩ (by
    rintro ds res ⟨t, rfl, h, rfl⟩
    rfl) fun f cdv A outer s0 H0 E hr => by
    rintro ds res ⟨t, rfl, h, rfl⟩
    have nd : (["there", "place", "row"] : List Str).Nodup := by decide +kernel
    exact sd_ret (pd_dc [("place", 1), ("row", 2)] (t.zipIdx) ((fun q => .tup [.int ((q.2 : Nat) : Int), .int q.1])) ((fun q => q.1)) ((fun q => D.int ((q.2 : Nat) : Int))) ((by rw [← enumD_map]; exact pid_enum Z.bl.enumerate (pd_var 0))) ((by simp; omega)) ((by rw [show (fun q : Int × Nat => q.1) = Prod.fst from rfl, List.zipIdx_map_fst]; exact h.1)) (fun q hq => ⟨_, _, by decide, (fun _ _ _ _ _ => (pgd_tup (pgsd_cons (pgd_name 1 nd) (pgsd_cons (pgd_name 2 nd) pgsd_nil)))), fun _ _ _ _ _ => ((pd_var 2)), fun _ _ _ _ _ => ((pd_var 1))⟩) nd (blkOk_by (show blkC ["there", "place", "row"] (defScope (topS 42)) _ [("place", 1), ("row", 2)] = true from by decide +kernel))) rfl
theorem zip_key (t : List Int) {a : Int} (ha : a ∈ t) : (t.zipIdx.map fun q => (Sum.inl q.1 : L2.Key))[t.idxOf a]? = some (Sum.inl a) ∧ (t.zipIdx.map fun q => D.int ((q.2 : Nat) : Int))[t.idxOf a]? = some (.int ((t.idxOf a : Nat) : Int)) := by
  have hlt := List.idxOf_lt_length_of_mem ha
  have e : t[t.idxOf a]? = some a := by rw [List.getElem?_eq_getElem hlt, List.getElem_idxOf hlt]
  constructor
  · rw [List.getElem?_map, List.getElem?_zipIdx, e]; simp
  · rw [List.getElem?_map, List.getElem?_zipIdx, e]; simp
theorem F_marked_in (Z : Fx TB w K mg base Za) : FnR TB P w K mg base "marked_in" ["there", "marks", "anchor", "clicks"] 2 (fun ds res => ∃ (t m : List Int) (an : Option Int) (c : Str × Int), ds = [eIs t, eIs m, eO D.int an, eCs [c]] ∧ ((ClickOk t an c ∧ t.Nodup) ∧ (m.Nodup ∧ t.length ≤ 20 ∧ m.length ≤ 20)) ∧ res = .tup [eIs (markStep t m an c).1, eO D.int (markStep t m an c).2]) :=
  FnR.mk' (N := ["there", "marks", "anchor", "clicks", "places", "found", "row", "word", "position", "first", "last", "is_marked", "other"]) Z.marked_in ⟨rfl, rfl, rfl, by decide +kernel, rfl, by decide +kernel, by decide +kernel⟩ (by
    rintro ds res ⟨t, m, an, c, rfl, h, rfl⟩
    rfl) fun f cdv A outer s0 H0 E hr => by
    rintro ds res ⟨t, m, an, c, rfl, h, rfl⟩
    have nd : (["there", "marks", "anchor", "clicks", "places", "found", "row", "word", "position", "first", "last", "is_marked", "other"] : List Str).Nodup := by decide +kernel
    obtain ⟨⟨hc, hn⟩, hm, hl1, hl2⟩ := h
    have hu : (A.deeper (envOfC "marked_in" (defScope (topS 43)) s0.heap.objs.size f cdv)).units + 1 < cLine := hu_of hr
    have hul := hr.units
    refine sd_set 4 ((pd_call (F_places_of Z) (hr.mono (by decide)) (pds_cons ((pd_var 0)) pds_nil) ⟨t, rfl, ⟨hn, by omega⟩, rfl⟩)) ?_ nd
    refine sd_setDcT 5 [("row", 6)] (m) (D.int) (id) (pid_list (pd_var 1)) ((by omega)) ((by rw [List.map_id]; exact hm)) (fun r hr' => ⟨_, _, by decide, (fun _ _ _ _ _ => (pgd_name 6 nd)), fun _ _ _ _ _ => ((pd_var 6)), fun _ _ _ _ _ => (pd_bl)⟩) ?_ nd (blkOk_by (show blkC ["there", "marks", "anchor", "clicks", "places", "found", "row", "word", "position", "first", "last", "is_marked", "other"] (defScope (topS 43)) _ [("row", 6)] = true from by decide +kernel))
    rw [List.map_id]
    obtain ⟨dp, hdp⟩ : ∃ dp, dp = D.dic (t.zipIdx.map fun q => Sum.inl q.1) (t.zipIdx.map fun q => D.int ((q.2 : Nat) : Int)) := ⟨_, rfl⟩
    obtain ⟨row, hrow⟩ : ∃ row, t[c.2.toNat]? = some row := ⟨_, List.getElem?_eq_getElem (by have := hc.pos; omega)⟩
    have hndk : (t.zipIdx.map fun q => (Sum.inl q.1 : L2.Key)).Nodup := by
      rw [show (fun q : Int × Nat => (Sum.inl q.1 : L2.Key)) = Sum.inl ∘ Prod.fst from rfl, ← List.map_map, List.zipIdx_map_fst]
      exact List.Pairwise.map _ (fun a b h z => h (Sum.inl.inj z)) hn
    obtain ⟨fin, hfin⟩ : ∃ fin : List Int, fin = if c.1 = "range" then markRange t m (an.getD 0) c.2.toNat else markClick m row := ⟨_, rfl⟩
    obtain ⟨an2, han2⟩ : ∃ an2 : Option Int, an2 = if c.1 = "range" then an else some row := ⟨_, rfl⟩
    have hres : markStep t m an c = (sortI fin, an2) := by
      unfold markStep
      rw [hfin, han2, hrow]
      split <;> rfl
    have hfl : fin.length ≤ 45 := by
      rw [hfin]
      split
      · have gen : ∀ (l f : List Int), (l.foldl (fun f o => if an.getD 0 ∈ m then addT f o else delT f o) f).length ≤ f.length + l.length := by
          intro l
          induction l with
          | nil => intro f; exact Nat.le_refl _
          | cons x l ih =>
            intro f
            have h1 := ih (if an.getD 0 ∈ m then addT f x else delT f x)
            have h2 := addT_length f x
            have h3 := delT_length f x
            rw [List.foldl_cons, List.length_cons]
            split at h1 <;> rename_i hh <;> simp only [hh, if_true, if_false] at * <;> omega
        have h1 := gen (segOf t (an.getD 0) c.2.toNat) m
        have h2 : (segOf t (an.getD 0) c.2.toNat).length ≤ t.length := by
          unfold segOf
          rw [List.length_take, List.length_drop]
          omega
        unfold markRange
        omega
      · unfold markClick
        have h2 := addT_length m row
        have h3 := delT_length m row
        split <;> omega
    refine sd_forS [c] eC (fun pre => match pre with
      | [] => [.d (eIs t), .d (eIs m), .d (eO D.int an), .d (eCs [c]), .d dp, .o (.s m), .no, .no, .no, .no, .no, .no, .no]
      | _ => [.d (eIs t), .d (eIs m), .d (eO D.int an2), .d (eCs [c]), .d dp, .o (.s fin), .no, .no, .no, .no, .no, .no, .no]) (pid_list (pd_var 3)) (by rw [hdp]; rfl) (fun pre a post e => ⟨_, _, (pgd_tup (pgsd_cons (pgd_name 7 nd) (pgsd_cons (pgd_name 8 nd) pgsd_nil))), ?_⟩) ?_
    · obtain ⟨rfl, rfl, rfl⟩ : pre = [] ∧ a = c ∧ post = [] := by
        cases pre with
        | nil => injection e with e1 e2; exact ⟨rfl, e1.symm, e2.symm⟩
        | cons x l => injection e with e1 e2; cases l <;> cases e2
      refine sd_set 6 (pd_ix (d := .int row) (pd_var 0) (pd_var 8) (.inl rfl) (atI_int hc.pos.1 (by rw [List.getElem?_map, hrow]; rfl))) ?_ nd
      rcases hc.word with hw | ⟨hw, b, hb, hbt⟩
      · have hw2 : ¬ a.1 = "range" := by rw [hw]; decide
        rw [if_neg hw2] at hfin han2
        refine sd_if (t := false) ((pw_t (pwd_and (q := false) (pt_c (pcd_eqS (pd_var 7) (pd_gS Z.RANGE))) fun z => absurd (of_decide_eq_true z) hw2)).cast (by rw [Bool.and_false])) (fun z => by cases z) fun _ => ?_
        refine sd_if (pt_c (pcd_inS 5 rfl hu (pd_var 6))) (fun z => ?_) fun z => ?_
        · have z := of_decide_eq_true z
          refine sd_delS 5 rfl (pd_var 6) z (sd_nil ?_)
          refine sd_set 2 (pd_var 6) (sd_nil (sd_nil ?_)) nd
          show Weak _ _
          rw [hfin, han2]
          exact (by repeat (first | exact Weak.nil | (refine Weak.cons (by first | exact WkS.refl | exact WkS.drop | exact WkS.fz | exact WkS.of_eq (by simp [markClick, z, eO])) ?_)))
        · have z := of_decide_eq_false z
          refine sd_putS 5 rfl hu (pd_var 6) (by omega) (sd_nil ?_)
          refine sd_set 2 (pd_var 6) (sd_nil (sd_nil ?_)) nd
          show Weak _ _
          rw [hfin, han2]
          exact (by repeat (first | exact Weak.nil | (refine Weak.cons (by first | exact WkS.refl | exact WkS.drop | exact WkS.fz | exact WkS.of_eq (by simp [markClick, z, eO])) ?_)))
      · subst hb
        rw [if_pos hw] at hfin han2
        have hfin : fin = markRange t m b a.2.toNat := hfin
        have hp0 := hc.pos
        obtain ⟨pn, hpn⟩ : ∃ pn : Nat, a.2 = pn := ⟨a.2.toNat, by omega⟩
        obtain ⟨i, hi⟩ : ∃ i, i = t.idxOf b := ⟨_, rfl⟩
        have hzk := zip_key t hbt
        rw [← hi] at hzk
        refine sd_if (t := true) ((pw_t (pwd_and (pt_c (pcd_eqS (pd_var 7) (pd_gS Z.RANGE))) fun z => pwd_and1 (pt_c (pcd_inD hu ((pd_var 2).cast (show eO D.int (some b) = D.int b from rfl)) ((pd_var 4).cast hdp) hndk (List.mem_of_getElem? hzk.1))))).cast (by rw [decide_eq_true hw]; rfl)) (fun _ => ?_) fun z => by cases z
        have hpl : ∀ {X : Cx} {env : List Sl} {ea eb : Expr} {pos : Pos}, X.A.units + 1 < cLine → PD TB X ea env dp → PD TB X eb env (.int b) → NoSl eb → PD TB X (.Subscript ea eb pos) env (.int (i : Int)) := fun hu1 h1 h2 hs => pd_dget i (k := Sum.inl b) hu1 (h1.cast hdp) h2 (.inl ⟨b, rfl, rfl⟩) hndk hzk.1 hzk.2 hs
        refine sd_par 9 10 (d1 := .int ((min i pn : Nat) : Int)) (d2 := .int ((max i pn : Nat) : Int)) ((pd_min2 Z.bl.min (hpl hu (pd_var 4) ((pd_var 2).cast rfl) (fun _ _ => rfl)) (pd_var 8)).cast (by rw [hpn]; congr 1; split <;> omega)) ((pd_max2 Z.bl.max (hpl hu (pd_var 4) ((pd_var 2).cast rfl) (fun _ _ => rfl)) (pd_var 8)).cast (by rw [hpn]; congr 1; split <;> omega)) ?_ nd
        refine sd_set 11 (pd_c (pcd_inS 5 rfl hu ((pd_var 2).cast (show eO D.int (some b) = D.int b from rfl)))) ?_ nd
        have hseg : segOf t b a.2.toNat = (t.drop (min i pn)).take (max i pn + 1 - min i pn) := by
          unfold segOf
          rw [← hi, hpn]
          rfl
        refine sd_forS (segOf t b a.2.toNat) D.int (fun p2 => [.d (eIs t), .d (eIs m), .d (.int b), .d (eCs [a]), .d dp, .o (.s (p2.foldl (fun f o => if b ∈ m then addT f o else delT f o) m)), .d (.int row), .d (.str a.1), .d (.int a.2), .d (.int ((min i pn : Nat) : Int)), .d (.int ((max i pn : Nat) : Int)), .d (.bl (decide (b ∈ m))), .no]) (by
            rw [hseg, List.map_take, List.map_drop]
            exact pid_list ((pd_slice (pd_var 0) (po_so (pd_var 9)) (po_so ((pd_add (pd_var 10) pd_int).cast (show _ = D.int ((max i pn + 1 : Nat) : Int) from by rw [Int.natCast_add]; rfl)))).cast (by rw [cut_both]))) rfl (fun p2 o q2 e2 => ⟨_, _, (pgd_name 12 nd), ?_⟩) ?_
        · have hfl2 : (p2.foldl (fun f o => if b ∈ m then addT f o else delT f o) m).length < 1000 := by
            have gen : ∀ (l f : List Int), (l.foldl (fun f o => if b ∈ m then addT f o else delT f o) f).length ≤ f.length + l.length := by
              intro l
              induction l with
              | nil => intro f; exact Nat.le_refl _
              | cons x l ih =>
                intro f
                have h1 := ih (if b ∈ m then addT f x else delT f x)
                have h2 := addT_length f x
                have h3 := delT_length f x
                rw [List.foldl_cons, List.length_cons]
                split at h1 <;> rename_i hh <;> simp only [hh, if_true, if_false] at * <;> omega
            have h1 := gen p2 m
            have h2 : p2.length ≤ t.length := by
              have h3 : (segOf t b a.2.toNat).length ≤ t.length := by
                unfold segOf
                rw [List.length_take, List.length_drop]
                omega
              have := congrArg List.length e2
              rw [List.length_append] at this
              omega
            omega
          have hstep : ((p2 ++ [o]).foldl (fun f o => if b ∈ m then addT f o else delT f o) m) = if b ∈ m then addT (p2.foldl (fun f o => if b ∈ m then addT f o else delT f o) m) o else delT (p2.foldl (fun f o => if b ∈ m then addT f o else delT f o) m) o := by
            rw [List.foldl_append]
            rfl
          refine sd_if (pt_v (pd_var 11)) (fun z => ?_) fun z => ?_
          · have z := of_decide_eq_true z
            refine sd_putS 5 rfl hu (pd_var 12) hfl2 (sd_nil (sd_nil ?_))
            show Weak _ _
            rw [hstep, if_pos z]
            exact (by repeat (first | exact Weak.nil | (refine Weak.cons (by first | exact WkS.refl | exact WkS.drop | exact WkS.fz | exact WkS.of_eq (by simp )) ?_)))
          · have z := of_decide_eq_false z
            refine sd_popS 5 rfl (pd_var 12) (sd_nil (sd_nil ?_)) ⟨rfl, rfl, rfl, rfl⟩
            show Weak _ _
            rw [hstep, if_neg z]
            exact (by repeat (first | exact Weak.nil | (refine Weak.cons (by first | exact WkS.refl | exact WkS.drop | exact WkS.fz | exact WkS.of_eq (by simp )) ?_)))
        · refine sd_nil (sd_nil ?_)
          show Weak _ _
          rw [hfin, han2]
          exact (by repeat (first | exact Weak.nil | (refine Weak.cons (by first | exact WkS.refl | exact WkS.drop | exact WkS.fz | exact WkS.of_eq (by simp [markRange, eO])) ?_)))
    · show SD _ _ _ [.d (eIs t), .d (eIs m), .d (eO D.int an2), .d (eCs [c]), .d dp, .o (.s fin), .no, .no, .no, .no, .no, .no, .no] _
      refine sd_weak (Weak.fzAt 5 rfl) ?_
      rw [hres]
      exact sd_ret (pd_tup (pds_cons (pd_sortedD Z.bl.sorted (pd_var 5) (by omega) (sortI_perm fin) (sortI_sorted fin)) (pds_cons ((pd_var 2)) pds_nil))) rfl
theorem F_check_state (Z : Fx TB w K mg base Za) : FnR TB P w K mg base "check_state" ["there", "marks", "clicks"] 3 (fun ds res => ∃ (t m : List Int) (cs : List (Str × Int)), ds = [eIs t, eIs m, eCs cs] ∧ ((t.Nodup ∧ t.length ≤ 1000) ∧ (m.Pairwise (· < ·) ∧ m.length ≤ 1000) ∧ ∀ c ∈ cs, (0 ≤ c.2 ∧ c.2 < t.length) ∧ (c.1 = "click" ∨ c.1 = "range")) ∧ res = .non) :=
  FnR.mk' (N := ["there", "marks", "clicks"]) Z.check_state ⟨rfl, rfl, rfl, by decide +kernel, rfl, by decide +kernel, by decide +kernel⟩ (by
    rintro ds res ⟨t, m, cs, rfl, h, rfl⟩
    rfl) fun f cdv A outer s0 H0 E hr => by
    rintro ds res ⟨t, m, cs, rfl, h, rfl⟩
    have nd : (["there", "marks", "clicks"] : List Str).Nodup := by decide +kernel
    refine sd_expr (pd_call (F_check_there Z) (hr.mono (by decide)) (pds_cons ((pd_var 0)) pds_nil) ⟨t, rfl, h.1, rfl⟩) ?_
    refine sd_expr (pd_call (F_check_marks Z) (hr.mono (by decide)) (pds_cons ((pd_var 1)) pds_nil) ⟨m, rfl, h.2.1, rfl⟩) ?_
    exact sd_expr (pd_call (F_check_clicks Z) (hr.mono (by decide)) (pds_cons ((pd_var 0)) (pds_cons ((pd_var 2)) pds_nil)) ⟨t, cs, rfl, h.2.2, rfl⟩) (sd_nil rfl)
theorem F_marked (Z : Fx TB w K mg base Za) : FnR TB P w K mg base "marked" ["there", "marks", "anchor", "clicks"] 4 (fun ds res => ∃ (t m : List Int) (an : Option Int) (c : Str × Int), ds = [eIs t, eIs m, eO D.int an, eCs [c]] ∧ ((ClickOk t an c ∧ t.Nodup) ∧ (m.Pairwise (· < ·) ∧ t.length ≤ 20 ∧ m.length ≤ 20)) ∧ res = .tup [eIs (markStep t m an c).1, eO D.int (markStep t m an c).2]) :=
  FnR.mk' (N := ["there", "marks", "anchor", "clicks"]) Z.marked ⟨rfl, rfl, rfl, by decide +kernel, rfl, by decide +kernel, by decide +kernel⟩ (by
    rintro ds res ⟨t, m, an, c, rfl, h, rfl⟩
    rfl) fun f cdv A outer s0 H0 E hr => by
    rintro ds res ⟨t, m, an, c, rfl, h, rfl⟩
    have nd : (["there", "marks", "anchor", "clicks"] : List Str).Nodup := by decide +kernel
    obtain ⟨⟨hc, hn⟩, hm, hl1, hl2⟩ := h
    refine sd_expr (pd_call (F_check_state Z) (hr.mono (by decide)) (pds_cons ((pd_var 0)) (pds_cons ((pd_var 1)) (pds_cons ((pd_var 3)) pds_nil))) ⟨t, m, [c], rfl, ⟨⟨hn, by omega⟩, ⟨hm, by omega⟩, fun d hd => by rw [List.mem_singleton.mp hd]; exact ⟨hc.pos, hc.word.elim .inl fun z => .inr z.1⟩⟩, rfl⟩) ?_
    exact sd_ret (pd_call (F_marked_in Z) (hr.mono (by decide)) (pds_cons ((pd_var 0)) (pds_cons ((pd_var 1)) (pds_cons ((pd_var 2)) (pds_cons ((pd_var 3)) pds_nil)))) ⟨t, m, an, c, rfl, ⟨⟨hc, hn⟩, hm.imp (fun h => by omega), hl1, hl2⟩, rfl⟩) rfl
theorem F_cost (Z : Fx TB w K mg base Za) : FnR TB P w K mg base "cost" ["there", "marks"] 3 (fun ds res => ∃ (t m : List Int), ds = [eIs t, eIs m] ∧ ((t.Nodup ∧ t.length ≤ 100) ∧ (m.Pairwise (· < ·) ∧ m.length ≤ 100) ∧ ∀ x ∈ m, x ∈ t) ∧ res = .int (costIn t m)) :=
  FnR.mk' (N := ["there", "marks"]) Z.cost ⟨rfl, rfl, rfl, by decide +kernel, rfl, by decide +kernel, by decide +kernel⟩ (by
    rintro ds res ⟨t, m, rfl, h, rfl⟩
    rfl) fun f cdv A outer s0 H0 E hr => by
    rintro ds res ⟨t, m, rfl, h, rfl⟩
    have nd : (["there", "marks"] : List Str).Nodup := by decide +kernel
    refine sd_expr (pd_call (F_check_there Z) (hr.mono (by decide)) (pds_cons ((pd_var 0)) pds_nil) ⟨t, rfl, ⟨h.1.1, by omega⟩, rfl⟩) ?_
    refine sd_expr (pd_call (F_check_marks_there Z) (hr.mono (by decide)) (pds_cons ((pd_var 0)) (pds_cons ((pd_var 1)) pds_nil)) ⟨t, m, rfl, ⟨⟨h.2.1.1, by omega⟩, h.2.2⟩, rfl⟩) ?_
    exact sd_ret (pd_call (F_cost_in Z) (hr.mono (by decide)) (pds_cons ((pd_var 0)) (pds_cons ((pd_var 1)) pds_nil)) ⟨t, m, rfl, by omega, rfl⟩) rfl
end
end Lw
set_option Elab.async false
set_option linter.all false
set_option maxRecDepth 100000
set_option maxHeartbeats 4000000
/-! # cheapest marking, stops -/
namespace Lw
open PySem PySem.Spec PyProof.Rows L2
theorem room80 {k : Nat} {A : Around} (r : Room k A) : A.units + 80 < cLine := by have := r.un; omega
def Even1 (t m : List Int) : Prop := ((coverIn t m).filter fun t => decide (t.length = 1)).length % 2 = 0
instance (t m : List Int) : Decidable (Even1 t m) := inferInstanceAs (Decidable (_ = _))
theorem coverFrom_ok (b : Key) : ∀ n x, (coverFrom b n x).length ≤ n ∧ ∀ t ∈ coverFrom b n x, t ≠ [] := by
  intro n
  induction n with
  | zero => intro x; exact ⟨Nat.le_refl _, fun t h => by cases h⟩
  | succ n ih =>
    intro x
    unfold coverFrom
    split
    · split
      · obtain ⟨h1, h2⟩ := ih (x + 1)
        refine ⟨by rw [List.length_cons]; omega, fun t ht => ?_⟩
        rcases List.mem_cons.mp ht with rfl | ht
        · simp
        · exact h2 t ht
      · obtain ⟨h1, h2⟩ := ih (x + 2)
        refine ⟨by rw [List.length_cons]; omega, fun t ht => ?_⟩
        rcases List.mem_cons.mp ht with rfl | ht
        · simp
        · exact h2 t ht
    · exact ⟨Nat.zero_le _, fun t h => by cases h⟩
theorem coverIn_ok {t m : List Int} (h : t.length ≤ 100) : (coverIn t m).length ≤ 30000 ∧ ∀ x ∈ coverIn t m, x ≠ [] := by
  have hb0 : (blocksOf (bordersIn t m)).length ≤ 101 := Nat.le_trans (blocksOf_length _) (Nat.le_trans borders_length (by omega))
  have hok := blocksOf_ok (borders_ok (t := t) (m := m))
  have gen : ∀ l : List Key, (∀ b ∈ l, 0 ≤ b.1 ∧ b.1 ≤ b.2 ∧ b.2 ≤ (t.length : Int)) → (l.flatMap blockCover).length ≤ 200 * l.length := by
    intro l
    induction l with
    | nil => intro _; exact Nat.zero_le _
    | cons b l ih =>
      intro hl
      have h1 := hl b List.mem_cons_self
      have h2 := ih fun c hc => hl c (List.mem_cons_of_mem _ hc)
      have h4 : (blockCover b).length ≤ 200 := Nat.le_trans (coverFrom_ok b _ _).1 (by omega)
      rw [List.flatMap_cons, List.length_append, List.length_cons]
      omega
  refine ⟨?_, fun x hx => ?_⟩
  · have := gen _ hok
    unfold coverIn
    omega
  · unfold coverIn at hx
    obtain ⟨b, _, hb⟩ := List.mem_flatMap.mp hx
    exact (coverFrom_ok b _ _).2 x hb
theorem even_one {t m : List Int} (h : Even1 t m) : ((coverIn t m).filter fun t => decide (t.length = 1)).length % 2 = 0 := h
abbrev eCo (p : Int × List Key) : D := .tup [.int p.1, eKs p.2]
def costsBy (wd : Nat) (rows : List (List Int)) (m : List Int) : List (Int × List Key) := (sorts wd).map fun s => (costIn (orderIn rows s) m, s)
/-! ### tuples to choose from -/
abbrev S4 := Int × Int × List Int × List Int
abbrev S4k := Int × Int × List Int × List Key
abbrev S3 := Int × Int × List Int
abbrev eS4 (p : S4) : D := .tup [.int p.1, .int p.2.1, eIs p.2.2.1, eIs p.2.2.2]
abbrev eS4k (p : S4k) : D := .tup [.int p.1, .int p.2.1, eIs p.2.2.1, eKs p.2.2.2]
abbrev eS3 (p : S3) : D := .tup [.int p.1, .int p.2.1, eIs p.2.2]
def ltI (a b : Int) (k : Bool) : Bool := if a = b then k else decide (a < b)
def ltL (a b : List Int) (k : Bool) : Bool := if a = b then k else decide (a < b)
def lt4 (a b : S4) : Bool := ltI a.1 b.1 (ltI a.2.1 b.2.1 (ltL a.2.2.1 b.2.2.1 (ltL a.2.2.2 b.2.2.2 false)))
def lt3 (a b : S3) : Bool := ltI a.1 b.1 (ltI a.2.1 b.2.1 (ltL a.2.2 b.2.2 false))
def ltKs (a b : List Key) : Bool := PySem.W.rowLt [toPy (eKs a)] [toPy (eKs b)]
def lt4k (a b : S4k) : Bool := ltI a.1 b.1 (ltI a.2.1 b.2.1 (ltL a.2.2.1 b.2.2.1 (ltKs a.2.2.2 b.2.2.2)))
theorem toPy_S4 (p : S4) : toPy (eS4 p) = .tuple [.int p.1, .int p.2.1, .list (p.2.2.1.map .int), .list (p.2.2.2.map .int)] := by
  rw [toPy_tup, toPys_cons, toPys_cons, toPys_cons, toPys_cons, toPy_eIs, toPy_eIs]
  simp [toPy, toPys]
theorem toPy_S4k (p : S4k) : toPy (eS4k p) = .tuple [.int p.1, .int p.2.1, .list (p.2.2.1.map .int), toPy (eKs p.2.2.2)] := by
  rw [toPy_tup, toPys_cons, toPys_cons, toPys_cons, toPys_cons, toPy_eIs]
  simp [toPy, toPys]
theorem toPy_S3 (p : S3) : toPy (eS3 p) = .tuple [.int p.1, .int p.2.1, .list (p.2.2.map .int)] := by
  rw [toPy_tup, toPys_cons, toPys_cons, toPys_cons, toPy_eIs]
  simp [toPy, toPys]
theorem toPys_eK : ∀ s : List Key, toPys (s.map eK) = s.map fun k => PyData.tuple [.int k.1, .int k.2]
  | [] => by simp [toPys]
  | k :: s => by
    rw [List.map_cons, toPys_cons, List.map_cons, toPys_eK s, toPy_tup, toPys_cons, toPys_cons]
    simp [toPy, toPys]
theorem toPy_eKs (s : List Key) : toPy (eKs s) = .list (s.map fun k => PyData.tuple [.int k.1, .int k.2]) := by rw [toPy_lst, toPys_eK]
theorem alikeAll_K : ∀ a b : List Key, PySem.W.alikeAll (a.map fun k => PyData.tuple [.int k.1, .int k.2]) (b.map fun k => PyData.tuple [.int k.1, .int k.2]) = true
  | [], _ => by simp [PySem.W.alikeAll]
  | _ :: _, [] => by simp [PySem.W.alikeAll]
  | x :: a, y :: b => by simp [PySem.W.alikeAll, PySem.W.alike, alikeAll_K a b]
theorem alike_K (a b : List Key) : PySem.W.alike (toPy (eKs a)) (toPy (eKs b)) = true := by
  rw [toPy_eKs, toPy_eKs]
  simp [PySem.W.alike, alikeAll_K]
theorem rowLt_tuple (xs ys : List PyData) : PySem.W.dataLt (.tuple xs) (.tuple ys) = PySem.W.rowLt xs ys := PySem.W.dataLt_tuple xs ys
theorem dlt_S4 (a b : S4) : PySem.W.dataLt (toPy (eS4 a)) (toPy (eS4 b)) = lt4 a b := by
  rw [toPy_S4, toPy_S4, rowLt_tuple, dlt_int, dlt_int, dlt_ints, dlt_ints, dlt_nil]
  rfl
theorem dlt_S3 (a b : S3) : PySem.W.dataLt (toPy (eS3 a)) (toPy (eS3 b)) = lt3 a b := by
  rw [toPy_S3, toPy_S3, rowLt_tuple, dlt_int, dlt_int, dlt_ints, dlt_nil]
  rfl
theorem dlt_S4k (a b : S4k) : PySem.W.dataLt (toPy (eS4k a)) (toPy (eS4k b)) = lt4k a b := by
  rw [toPy_S4k, toPy_S4k, rowLt_tuple, dlt_int, dlt_int, dlt_ints]
  rfl
theorem alike_S4 (a b : S4) : PySem.W.alike (toPy (eS4 a)) (toPy (eS4 b)) = true := by
  rw [toPy_S4, toPy_S4]
  simp [PySem.W.alike, PySem.W.alikeAll, alikeAll_int]
theorem alike_S3 (a b : S3) : PySem.W.alike (toPy (eS3 a)) (toPy (eS3 b)) = true := by
  rw [toPy_S3, toPy_S3]
  simp [PySem.W.alike, PySem.W.alikeAll, alikeAll_int]
theorem alike_S4k (a b : S4k) : PySem.W.alike (toPy (eS4k a)) (toPy (eS4k b)) = true := by
  rw [toPy_S4k, toPy_S4k]
  simp [PySem.W.alike, PySem.W.alikeAll, alikeAll_int, alike_K]
theorem pln_S4 (a : S4) : pln 60 (eS4 a) = true := by
  have h1 := pln_mono (n := 59) (by decide) (pn_eIs.pl a.2.2.1)
  have h2 := pln_mono (n := 59) (by decide) (pn_eIs.pl a.2.2.2)
  show [D.int a.1, .int a.2.1, eIs a.2.2.1, eIs a.2.2.2].all (pln 59) = true
  simp only [List.all_cons, List.all_nil, h1, h2, Bool.and_true]
  rfl
theorem pln_S3 (a : S3) : pln 60 (eS3 a) = true := by
  have h1 := pln_mono (n := 59) (by decide) (pn_eIs.pl a.2.2)
  show [D.int a.1, .int a.2.1, eIs a.2.2].all (pln 59) = true
  simp only [List.all_cons, List.all_nil, h1, Bool.and_true]
  rfl
theorem pln_S4k (a : S4k) : pln 60 (eS4k a) = true := by
  have h1 := pln_mono (n := 59) (by decide) (pn_eIs.pl a.2.2.1)
  have h2 := pln_mono (n := 59) (by decide) (pn_eKs.pl a.2.2.2)
  show [D.int a.1, .int a.2.1, eIs a.2.2.1, eKs a.2.2.2].all (pln 59) = true
  simp only [List.all_cons, List.all_nil, h1, h2, Bool.and_true]
  rfl
/-- xs == [], xs != [] -/
theorem pcd_eqNil {TB : Tbs} {X : Cx} {env : List Sl} {a : Expr} {p2 : Pos} {α : Type} {F : List α} {e : α → D} (hu : X.A.units + 64 < cLine) (ha : PD TB X a env (.lst (F.map e))) (he : ∀ b ∈ F, pln 59 (e b) = true) : PCd TB X .Eq a (.List [] p2) env F.isEmpty :=
  pcd_eq hu ha (pd_lst pds_nil) (by
    show (F.map e).all (pln 59) = true
    rw [List.all_eq_true]
    intro y hy
    obtain ⟨b, hb, rfl⟩ := List.mem_map.mp hy
    exact he b hb) rfl (by
    cases F with
    | nil => simp
    | cons b l => simp)
theorem pcd_neNil {TB : Tbs} {X : Cx} {env : List Sl} {a : Expr} {p2 : Pos} {α : Type} {F : List α} {e : α → D} (hu : X.A.units + 64 < cLine) (ha : PD TB X a env (.lst (F.map e))) (he : ∀ b ∈ F, pln 59 (e b) = true) : PCd TB X .NotEq a (.List [] p2) env (!F.isEmpty) :=
  pcd_ne hu ha (pd_lst pds_nil) (by
    show (F.map e).all (pln 59) = true
    rw [List.all_eq_true]
    intro y hy
    obtain ⟨b, hb, rfl⟩ := List.mem_map.mp hy
    exact he b hb) rfl (by
    cases F with
    | nil => simp
    | cons b l => simp)
theorem pln59_S4 (a : S4) : pln 59 (eS4 a) = true := by
  have h1 := pln_mono (n := 58) (by decide) (pn_eIs.pl a.2.2.1)
  have h2 := pln_mono (n := 58) (by decide) (pn_eIs.pl a.2.2.2)
  show [D.int a.1, .int a.2.1, eIs a.2.2.1, eIs a.2.2.2].all (pln 58) = true
  simp only [List.all_cons, List.all_nil, h1, h2, Bool.and_true]
  rfl
def headsFound (s : List Key) (l : List (Int × List Key)) : List S4k := l.filterMap fun p => (wayBetween s p.2).map fun h => (p.1 + (h.length : Int), (h.length : Int), h, p.2)
def stopsFound (s g : List Key) (l : List (Int × List Key)) : List S4 := l.filterMap fun p => match wayBetween s p.2, wayBetween p.2 g with
  | some h, some k => some (p.1 + (h.length : Int) + (k.length : Int), (h.length : Int), h, k)
  | _, _ => none
def best4 : List S4 → Option (Int × List Int × List Int)
  | [] => none
  | b :: r => some ((bestOf lt4 b r).1, (bestOf lt4 b r).2.2.1, (bestOf lt4 b r).2.2.2)
abbrev eStop (p : Int × List Int × List Int) : D := .tup [.int p.1, eIs p.2.1, eIs p.2.2]
section
variable {TB : Tbs} {P : Program} {w : World} {K : PySem.W.Frag} {mg : Str → Option Value} {base : Heap} {Za : Ads}
theorem F_cheapest_in (Z : Fx TB w K mg base Za) : FnR TB P w K mg base "cheapest_in" ["there", "marks"] 3 (fun ds res => ∃ (t m : List Int), ds = [eIs t, eIs m] ∧ (t.length ≤ 100 ∧ Even1 t m) ∧ res = eCs (cheapestIn t m)) :=
  FnR.mk' (N := ["there", "marks"]) Z.cheapest_in ⟨rfl, rfl, rfl, by decide +kernel, rfl, by decide +kernel, by decide +kernel⟩ (by
    rintro ds res ⟨t, m, rfl, h, rfl⟩
    rfl) fun f cdv A outer s0 H0 E hr => by
    rintro ds res ⟨t, m, rfl, h, rfl⟩
    have nd : (["there", "marks"] : List Str).Nodup := by decide +kernel
    obtain ⟨h1, h2⟩ := coverIn_ok (m := m) h.1
    exact sd_ret (pd_call (F_clicks_in Z) (hr.mono (by decide)) (pds_cons ((pd_call (F_cover_in Z) (hr.mono (by decide)) (pds_cons ((pd_var 0)) (pds_cons ((pd_var 1)) (pds_cons (pd_int) pds_nil))) ⟨t, m, rfl, h.1, rfl⟩)) pds_nil) ⟨_, rfl, ⟨⟨h1, h2⟩, even_one h.2⟩, rfl⟩) rfl
theorem F_costs_by_sorting (Z : Fx TB w K mg base Za) : FnR TB P w K mg base "costs_by_sorting" ["table", "marks"] 5 (fun ds res => ∃ (wd : Nat) (rows : List (List Int)) (m : List Int), ds = [eTable Za wd rows, eIs m] ∧ (Tb wd rows) ∧ res = .lst ((costsBy wd rows m).map eCo)) :=
  FnR.mk' (N := ["table", "marks", "rows", "sorting"]) Z.costs_by_sorting ⟨rfl, rfl, rfl, by decide +kernel, rfl, by decide +kernel, by decide +kernel⟩ (by
    rintro ds res ⟨wd, rows, m, rfl, h, rfl⟩
    rfl) fun f cdv A outer s0 H0 E hr => by
    rintro ds res ⟨wd, rows, m, rfl, h, rfl⟩
    have nd : (["table", "marks", "rows", "sorting"] : List Str).Nodup := by decide +kernel
    have hf := h.few
    refine sd_set 2 ((pd_prop (F_Table_rows Z) (hr.mono (by decide)) ((pd_var 0)) ⟨_, _, rfl, by omega, rfl⟩)) ?_ nd
    refine sd_ret ((pd_lcA [("sorting", 3)] (sorts wd) (eKs) ((fun s => eCo (costIn (orderIn rows s) m, s))) ((pid_list (pd_call (F_all_sortings Z) (hr.mono (by decide)) (pds_cons ((pd_prop (F_Table_width Z) (hr.mono (by decide)) ((pd_var 0)) ⟨_, _, rfl, True.intro, rfl⟩)) pds_nil) ⟨_, rfl, by have := h.wide; omega, rfl⟩))) ((Nat.le_trans (sorts_few h.wide) (by decide))) (fun s hs => ⟨_, _, by decide, (fun _ _ _ _ _ => (pgd_name 3 nd)), fun _ _ _ _ _ => ptsd_nil, fun _ _ _ _ _ _ => (pd_tup (pds_cons ((pd_call (F_cost_in Z) (hr.mono (by decide)) (pds_cons ((pd_call (F_order_in Z) (hr.mono (by decide)) (pds_cons ((pd_var 2)) (pds_cons ((pd_var 3)) pds_nil)) ⟨wd, rows, s, rfl, ⟨⟨by omega, h.each⟩, sorts_srt h.pos h.wide s hs⟩, rfl⟩)) (pds_cons ((pd_var 1)) pds_nil)) ⟨_, _, rfl, by rw [orderIn_length]; omega, rfl⟩)) (pds_cons ((pd_var 3)) pds_nil)))⟩) nd (blkOk_by (show blkC ["table", "marks", "rows", "sorting"] (defScope (topS 75)) _ [("sorting", 3)] = true from by decide +kernel)))) ?_
    show D.lst _ = _
    unfold costsBy
    rw [List.map_map]
    rfl
theorem F_cheapest_sorting (Z : Fx TB w K mg base Za) : FnR TB P w K mg base "cheapest_sorting" ["table", "sorting", "marks"] 6 (fun ds res => ∃ (wd : Nat) (rows : List (List Int)) (s : List Key) (m : List Int) (b0 : S4k) (r : List S4k), ds = [eTable Za wd rows, eKs s, eIs m] ∧ (((Tb wd rows ∧ Srt wd s) ∧ (m.Pairwise (· < ·) ∧ m.length ≤ 1000) ∧ ∀ x ∈ m, 0 ≤ x ∧ x < rows.length) ∧ headsFound s (costsBy wd rows m) = b0 :: r) ∧ res = .tup [.int (bestOf lt4k b0 r).1, eIs (bestOf lt4k b0 r).2.2.1, eKs (bestOf lt4k b0 r).2.2.2]) :=
  FnR.mk' (N := ["table", "sorting", "marks", "found", "number", "goal", "heads", "length"]) Z.cheapest_sorting ⟨rfl, rfl, rfl, by decide +kernel, rfl, by decide +kernel, by decide +kernel⟩ (by
    rintro ds res ⟨wd, rows, s, m, b0, r, rfl, h, rfl⟩
    rfl) fun f cdv A outer s0 H0 E hr => by
    rintro ds res ⟨wd, rows, s, m, b0, r, rfl, h, rfl⟩
    have nd : (["table", "sorting", "marks", "found", "number", "goal", "heads", "length"] : List Str).Nodup := by decide +kernel
    obtain ⟨⟨⟨h1, h2⟩, h3, h4⟩, h5⟩ := h
    have hf := h1.few
    have hul := hr.units
    refine sd_expr (pd_call (F_need_sorting Z) (hr.mono (by decide)) (pds_cons ((pd_prop (F_Table_width Z) (hr.mono (by decide)) ((pd_var 0)) ⟨_, _, rfl, True.intro, rfl⟩)) (pds_cons ((pd_var 1)) pds_nil)) ⟨_, _, rfl, h2.need, rfl⟩) ?_
    refine sd_expr (pd_call (F_check_marks_of Z) (hr.mono (by decide)) (pds_cons ((pd_lenO (n := rows.length) (F_Table_len Z) (hr.mono (by decide)) Z.bl.len ((pd_var 0)) ⟨_, _, rfl, True.intro, rfl⟩ (by omega))) (pds_cons ((pd_var 2)) pds_nil)) ⟨_, _, rfl, ⟨h3, h4⟩, rfl⟩) ?_
    refine sd_own 3 ?_ nd
    refine sd_forS (costsBy wd rows m) eCo (fun pre => [.d (eTable Za wd rows), .d (eKs s), .d (eIs m), .o (.l ((headsFound s pre).map eS4k)), .no, .no, .no, .no]) (pid_list (pd_call (F_costs_by_sorting Z) (hr.mono (by decide)) (pds_cons ((pd_var 0)) (pds_cons ((pd_var 2)) pds_nil)) ⟨_, _, _, rfl, h1, rfl⟩)) rfl (fun pre a post e => ⟨_, _, (pgd_tup (pgsd_cons (pgd_name 4 nd) (pgsd_cons (pgd_name 5 nd) pgsd_nil))), ?_⟩) ?_
    · have ha : a.2 ∈ sorts wd := by
        have : a ∈ costsBy wd rows m := by rw [e]; simp
        obtain ⟨s', hs', rfl⟩ := List.mem_map.mp this
        exact hs'
      have hsa := sorts_srt h1.pos h1.wide a.2 ha
      have hl : (headsFound s pre).length ≤ 60 := by
        refine Nat.le_trans (List.length_filterMap_le _ _) ?_
        have q := congrArg List.length e
        unfold costsBy at q
        rw [List.length_map, List.length_append, List.length_cons] at q
        have := sorts_few h1.wide
        omega
      have hsn : headsFound s (pre ++ [a]) = headsFound s pre ++ headsFound s [a] := List.filterMap_append
      refine sd_set 6 ((pd_call (F_way_between Z) (hr.mono (by decide)) (pds_cons ((pd_var 1)) (pds_cons ((pd_var 5)) pds_nil)) ⟨_, _, rfl, ⟨by have := h2.len; omega, by have := hsa.len; omega⟩, rfl⟩)) ?_ nd
      cases hw : wayBetween s a.2 with
      | none =>
        have e1 : headsFound s [a] = [] := by simp [headsFound, hw]
        refine sd_when (pt_c (pcd_notN (pd_var 6))) (fun z => by cases z) fun _ => sd_nil ?_
        show Weak _ _
        rw [hsn, e1]
        exact (by repeat (first | exact Weak.nil | (refine Weak.cons (by first | exact WkS.refl | exact WkS.drop | exact WkS.fz | exact WkS.of_eq (by simp )) ?_)))
      | some hh =>
        have e1 : headsFound s [a] = [(a.1 + (hh.length : Int), (hh.length : Int), hh, a.2)] := by simp [headsFound, hw]
        refine sd_when (pt_c (pcd_notN (pd_var 6))) (fun z => ?_) fun z => by cases z
        have hlen : ∀ {X : Cx} {env : List Sl} {ee : Expr}, PD TB X ee env (eWay (some hh)) → PD TB X ee env (.lst (hh.map D.int)) := fun q => q
        refine sd_app 3 rfl (d := eS4k (a.1 + (hh.length : Int), (hh.length : Int), hh, a.2)) (pd_tup (pds_cons (pd_add (pd_var 4) ((pd_len Z.bl.len (hlen (pd_var 6)) (.inl rfl)).cast (by rw [List.length_map]))) (pds_cons ((pd_len Z.bl.len (hlen (pd_var 6)) (.inl rfl)).cast (by rw [List.length_map])) (pds_cons ((pd_var 6)) (pds_cons ((pd_var 5)) pds_nil))))) (by rw [List.length_map]; omega) (sd_nil (sd_nil ?_))
        show Weak _ _
        rw [hsn, e1]
        exact (by repeat (first | exact Weak.nil | (refine Weak.cons (by first | exact WkS.refl | exact WkS.drop | exact WkS.fz | exact WkS.of_eq (by simp )) ?_)))
    · refine sd_weak (Weak.fzAt 3 rfl) ?_
      rw [h5]
      refine sd_unpack (x := eS4k (bestOf lt4k b0 r)) (pd_min (bs := b0 :: r) eS4k lt4k rfl Z.bl.min (room80 hr) (pd_var 3) (fun b _ => pln_S4k b) (fun b _ b' _ => alike_S4k b b') (fun b _ z => by rw [toPy_S4k] at z; cases z) (fun b _ b' _ => dlt_S4k b b')) (pgd_tup (pgsd_cons (pgd_name 4 nd) (pgsd_cons (pgd_name 7 nd) (pgsd_cons (pgd_name 6 nd) (pgsd_cons (pgd_name 5 nd) pgsd_nil))))) ?_
      exact sd_ret (pd_tup (pds_cons ((pd_var 4)) (pds_cons ((pd_var 6)) (pds_cons ((pd_var 5)) pds_nil)))) rfl
theorem F_one_stop (Z : Fx TB w K mg base Za) : FnR TB P w K mg base "one_stop" ["table", "sorting", "goal", "marks"] 6 (fun ds res => ∃ (wd : Nat) (rows : List (List Int)) (s g : List Key) (m : List Int), ds = [eTable Za wd rows, eKs s, eKs g, eIs m] ∧ (((Tb wd rows ∧ Srt wd s ∧ Srt wd g) ∧ (m.Pairwise (· < ·) ∧ m.length ≤ 1000) ∧ ∀ x ∈ m, 0 ≤ x ∧ x < rows.length)) ∧ res = eO eStop (best4 (stopsFound s g (costsBy wd rows m)))) :=
  FnR.mk' (N := ["table", "sorting", "goal", "marks", "found", "number", "stop", "heads", "home", "length"]) Z.one_stop ⟨rfl, rfl, rfl, by decide +kernel, rfl, by decide +kernel, by decide +kernel⟩ (by
    rintro ds res ⟨wd, rows, s, g, m, rfl, h, rfl⟩
    rfl) fun f cdv A outer s0 H0 E hr => by
    rintro ds res ⟨wd, rows, s, g, m, rfl, h, rfl⟩
    have nd : (["table", "sorting", "goal", "marks", "found", "number", "stop", "heads", "home", "length"] : List Str).Nodup := by decide +kernel
    obtain ⟨⟨h1, h2, h2g⟩, h3, h4⟩ := h
    have hf := h1.few
    have hul := hr.units
    refine sd_expr (pd_call (F_need_sorting Z) (hr.mono (by decide)) (pds_cons ((pd_prop (F_Table_width Z) (hr.mono (by decide)) ((pd_var 0)) ⟨_, _, rfl, True.intro, rfl⟩)) (pds_cons ((pd_var 1)) pds_nil)) ⟨_, _, rfl, h2.need, rfl⟩) ?_
    refine sd_expr (pd_call (F_need_sorting Z) (hr.mono (by decide)) (pds_cons ((pd_prop (F_Table_width Z) (hr.mono (by decide)) ((pd_var 0)) ⟨_, _, rfl, True.intro, rfl⟩)) (pds_cons ((pd_var 2)) pds_nil)) ⟨_, _, rfl, h2g.need, rfl⟩) ?_
    refine sd_expr (pd_call (F_check_marks_of Z) (hr.mono (by decide)) (pds_cons ((pd_lenO (n := rows.length) (F_Table_len Z) (hr.mono (by decide)) Z.bl.len ((pd_var 0)) ⟨_, _, rfl, True.intro, rfl⟩ (by omega))) (pds_cons ((pd_var 3)) pds_nil)) ⟨_, _, rfl, ⟨h3, h4⟩, rfl⟩) ?_
    refine sd_own 4 ?_ nd
    refine sd_forS (costsBy wd rows m) eCo (fun pre => [.d (eTable Za wd rows), .d (eKs s), .d (eKs g), .d (eIs m), .o (.l ((stopsFound s g pre).map eS4)), .no, .no, .no, .no, .no]) (pid_list (pd_call (F_costs_by_sorting Z) (hr.mono (by decide)) (pds_cons ((pd_var 0)) (pds_cons ((pd_var 3)) pds_nil)) ⟨_, _, _, rfl, h1, rfl⟩)) rfl (fun pre a post e => ⟨_, _, (pgd_tup (pgsd_cons (pgd_name 5 nd) (pgsd_cons (pgd_name 6 nd) pgsd_nil))), ?_⟩) ?_
    · have ha : a.2 ∈ sorts wd := by
        have : a ∈ costsBy wd rows m := by rw [e]; simp
        obtain ⟨s', hs', rfl⟩ := List.mem_map.mp this
        exact hs'
      have hsa := sorts_srt h1.pos h1.wide a.2 ha
      have hl : (stopsFound s g pre).length ≤ 60 := by
        refine Nat.le_trans (List.length_filterMap_le _ _) ?_
        have q := congrArg List.length e
        unfold costsBy at q
        rw [List.length_map, List.length_append, List.length_cons] at q
        have := sorts_few h1.wide
        omega
      have hsn : stopsFound s g (pre ++ [a]) = stopsFound s g pre ++ stopsFound s g [a] := List.filterMap_append
      refine sd_set 7 ((pd_call (F_way_between Z) (hr.mono (by decide)) (pds_cons ((pd_var 1)) (pds_cons ((pd_var 6)) pds_nil)) ⟨_, _, rfl, ⟨by have := h2.len; omega, by have := hsa.len; omega⟩, rfl⟩)) ?_ nd
      refine sd_set 8 ((pd_call (F_way_between Z) (hr.mono (by decide)) (pds_cons ((pd_var 6)) (pds_cons ((pd_var 2)) pds_nil)) ⟨_, _, rfl, ⟨by have := hsa.len; omega, by have := h2g.len; omega⟩, rfl⟩)) ?_ nd
      cases hw : wayBetween s a.2 with
      | none =>
        have e1 : stopsFound s g [a] = [] := by simp [stopsFound, hw]
        refine sd_when (t := false) ((pw_t (pwd_and (q := false) (pt_c (pcd_notN (pd_var 7))) fun z => by cases z)).cast rfl) (fun z => by cases z) fun _ => sd_nil ?_
        show Weak _ _
        rw [hsn, e1]
        exact (by repeat (first | exact Weak.nil | (refine Weak.cons (by first | exact WkS.refl | exact WkS.drop | exact WkS.fz | exact WkS.of_eq (by simp )) ?_)))
      | some hh =>
        cases hw2 : wayBetween a.2 g with
        | none =>
          have e1 : stopsFound s g [a] = [] := by simp [stopsFound, hw, hw2]
          refine sd_when (t := false) ((pw_t (pwd_and (pt_c (pcd_notN (pd_var 7))) fun z => pwd_and1 (pt_c (pcd_notN (pd_var 8))))).cast rfl) (fun z => by cases z) fun _ => sd_nil ?_
          show Weak _ _
          rw [hsn, e1]
          exact (by repeat (first | exact Weak.nil | (refine Weak.cons (by first | exact WkS.refl | exact WkS.drop | exact WkS.fz | exact WkS.of_eq (by simp )) ?_)))
        | some hk =>
          have e1 : stopsFound s g [a] = [(a.1 + (hh.length : Int) + (hk.length : Int), (hh.length : Int), hh, hk)] := by simp [stopsFound, hw, hw2]
          refine sd_when (t := true) ((pw_t (pwd_and (pt_c (pcd_notN (pd_var 7))) fun z => pwd_and1 (pt_c (pcd_notN (pd_var 8))))).cast rfl) (fun z => ?_) fun z => by cases z
          have hlen : ∀ {X : Cx} {env : List Sl} {ee : Expr} {hq : List Int}, PD TB X ee env (eWay (some hq)) → PD TB X ee env (.lst (hq.map D.int)) := fun q => q
          refine sd_app 4 rfl (d := eS4 (a.1 + (hh.length : Int) + (hk.length : Int), (hh.length : Int), hh, hk)) (pd_tup (pds_cons (pd_add (pd_add (pd_var 5) ((pd_len Z.bl.len (hlen (pd_var 7)) (.inl rfl)).cast (by rw [List.length_map]))) ((pd_len Z.bl.len (hlen (pd_var 8)) (.inl rfl)).cast (by rw [List.length_map]))) (pds_cons ((pd_len Z.bl.len (hlen (pd_var 7)) (.inl rfl)).cast (by rw [List.length_map])) (pds_cons ((pd_var 7)) (pds_cons ((pd_var 8)) pds_nil))))) (by rw [List.length_map]; omega) (sd_nil (sd_nil ?_))
          show Weak _ _
          rw [hsn, e1]
          exact (by repeat (first | exact Weak.nil | (refine Weak.cons (by first | exact WkS.refl | exact WkS.drop | exact WkS.fz | exact WkS.of_eq (by simp )) ?_)))
    · refine sd_weak (Weak.fzAt 4 rfl) ?_
      obtain ⟨F, hF⟩ : ∃ F, F = stopsFound s g (costsBy wd rows m) := ⟨_, rfl⟩
      rw [← hF]
      refine sd_when (pt_c (pcd_eqNil hul (pd_var 4) fun b _ => pln59_S4 b)) (fun z => ?_) fun z => ?_
      · cases F with
        | nil => exact sd_ret pd_non rfl
        | cons b0 r => cases z
      · cases F with
        | nil => cases z
        | cons b0 r =>
          refine sd_unpack (x := eS4 (bestOf lt4 b0 r)) (pd_min (bs := b0 :: r) eS4 lt4 rfl Z.bl.min (room80 hr) (pd_var 4) (fun b _ => pln_S4 b) (fun b _ b' _ => alike_S4 b b') (fun b _ z => by rw [toPy_S4] at z; cases z) (fun b _ b' _ => dlt_S4 b b')) (pgd_tup (pgsd_cons (pgd_name 5 nd) (pgsd_cons (pgd_name 9 nd) (pgsd_cons (pgd_name 7 nd) (pgsd_cons (pgd_name 8 nd) pgsd_nil))))) ?_
          exact sd_ret (pd_tup (pds_cons ((pd_var 5)) (pds_cons ((pd_var 7)) (pds_cons ((pd_var 8)) pds_nil)))) rfl
end
end Lw
set_option Elab.async false
set_option linter.all false
set_option maxRecDepth 100000
set_option maxHeartbeats 4000000
/-! # groups -/
namespace Lw
open PySem PySem.Spec PyProof.Rows L2
abbrev Grp := Int × List Int
abbrev eG (g : Grp) : D := .tup [.int g.1, eIs g.2]
def groupStep (gs : List Grp) (v row : Int) : List Grp :=
  match gs.getLast? with
  | some g => if g.1 = v then gs.dropLast ++ [(g.1, g.2 ++ [row])] else gs ++ [(v, [row])]
  | none => [(v, [row])]
def groupsOf (rows : List (List Int)) (c : Int) (order : List Int) : List Grp := order.foldl (fun gs row => groupStep gs (cellAt rows row c) row) []
def groupsIn (rows : List (List Int)) (s : List Key) (order : List Int) : List Grp :=
  match s with
  | [] => []
  | k :: _ => groupsOf rows k.1 order
/-- new since the entry -/
def Nw (w0 : Wd) (a : Addr) : Prop := ∀ o, w0.H a = some o → ∃ ps, o = .tbl ps
theorem nw_of {w0 w : Wd} {a : Addr} (l : Le w0 w) (h : w.H a = none) : Nw w0 a := fun o e => by
  cases o with
  | tbl ps => exact ⟨ps, rfl⟩
  | _ =>
    have z := l.h a _ e (fun ps z => by cases z)
    rw [h] at z
    cases z
theorem Le.updO {w0 w : Wd} {a : Addr} {o : HO} (l : Le w0 w) (n : Nw w0 a) : Le w0 ⟨w.F, upd w.H a o⟩ := ⟨l.f, fun x u e nt => by
  show upd w.H a o x = some u
  rw [upd_ne fun z => ?_]
  · exact l.h x u e nt
  · subst z
    obtain ⟨ps, q⟩ := n u e
    exact nt ps q, l.n⟩
theorem Le.updF {w0 w : Wd} {a : Addr} {o : HO} (l : Le w0 w) (n : Nw w0 a) (hf : w.F a = none) : Le w0 ⟨upd w.F a o, w.H⟩ := ⟨l.f.trans (FLe.new hf), l.h, fun x u e nt => by
  show upd w.F a o x = w0.F x
  rw [upd_ne fun z => ?_]
  · exact l.n x u e nt
  · subst z
    obtain ⟨ps, q⟩ := n u e
    exact nt ps q⟩
theorem Good.frz {TB : Tbs} {w : Wd} {a : Addr} {o : HO} (g : Good TB w) (h : w.H a = some o) (nt : ∀ ps, o ≠ .tbl ps) : Good TB ⟨upd w.F a o, w.H⟩ := ⟨fun x u e => by
  have e : upd w.F a o x = some u := e
  by_cases z : x = a
  · subst z
    rw [upd_same] at e
    cases e
    exact h
  · rw [upd_ne z] at e
    exact g.sub x u e, fun x ps e => by
  have e : upd w.F a o x = some (.tbl ps) := e
  by_cases z : x = a
  · subst z
    rw [upd_same] at e
    cases e
    exact nt ps rfl
  · rw [upd_ne z] at e
    exact g.nt x ps e, g.tb⟩
/-- the list of groups at p, the last of which still grows -/
inductive GrH (K : PySem.W.Frag) (w0 : Wd) (p : Addr) : Wd → List Grp → Prop
  | nil {w : Wd} : w.H p = some (.lst []) → w.F p = none → Nw w0 p → GrH K w0 p w []
  | cons {w : Wd} {gs : List Grp} {vs : List V} {v : Int} {rs : List Int} {T L : Addr} : w.H p = some (.lst (vs ++ [.ref T])) → w.F p = none → Nw w0 p → Reps K w.F vs (gs.map eG) → w.H T = some (.tup [.int v, .ref L]) → w.F T = none → Nw w0 T → w.H L = some (.lst (rs.map V.int)) → w.F L = none → Nw w0 L → p ≠ L → GrH K w0 p w (gs ++ [(v, rs)])
theorem GrH.mono {K : PySem.W.Frag} {w0 w w' : Wd} {p : Addr} {gs : List Grp} (h : GrH K w0 p w gs) (l : Le w w') : GrH K w0 p w' gs := by
  cases h with
  | nil h1 h2 h3 => exact .nil (l.h _ _ h1 fun _ z => by cases z) ((l.n _ _ h1 fun _ z => by cases z).trans h2) h3
  | cons h1 h2 h3 h4 h5 h6 h7 h8 h9 h10 h11 =>
    exact .cons (l.h _ _ h1 fun _ z => by cases z) ((l.n _ _ h1 fun _ z => by cases z).trans h2) h3 (h4.mono l.f) (l.h _ _ h5 fun _ z => by cases z) ((l.n _ _ h5 fun _ z => by cases z).trans h6) h7 (l.h _ _ h8 fun _ z => by cases z) ((l.n _ _ h8 fun _ z => by cases z).trans h9) h10 h11
/-- what has come about so far stands for ever from now on -/
theorem GrH.freeze {K : PySem.W.Frag} {TB : Tbs} {w0 w : Wd} {p : Addr} {gs : List Grp} (gr : GrH K w0 p w gs) (g : Good TB w) (l : Le w0 w) :
    ∃ w2, w2.H = w.H ∧ Good TB w2 ∧ FLe w.F w2.F ∧ Le w0 w2 ∧ ∃ us, w2.H p = some (.lst us) ∧ w2.F p = none ∧ Nw w0 p ∧ Reps K w2.F us (gs.map eG) ∧ us.length = gs.length := by
  cases gr with
  | nil h1 h2 h3 => exact ⟨w, rfl, g, FLe.refl _, l, [], h1, h2, h3, .nil, rfl⟩
  | @cons gs vs v rs T L h1 h2 h3 h4 h5 h6 h7 h8 h9 h10 h11 =>
    have lv := h4.length
    rw [List.length_map] at lv
    have nTL : T ≠ L := fun z => by
      rw [z, h8] at h5
      cases h5
    have npT : p ≠ T := fun z => by
      rw [z, h5] at h1
      cases h1
    have ga : Good TB ⟨upd w.F L (.lst (rs.map V.int)), w.H⟩ := g.frz h8 fun _ z => by cases z
    have la : Le w0 ⟨upd w.F L (.lst (rs.map V.int)), w.H⟩ := l.updF h10 h9
    have b2 : upd w.F L (.lst (rs.map V.int)) T = none := by rw [upd_ne nTL]; exact h6
    have gb : Good TB ⟨upd (upd w.F L (.lst (rs.map V.int))) T (.tup [.int v, .ref L]), w.H⟩ := ga.frz h5 fun _ z => by cases z
    have lb : Le w0 ⟨upd (upd w.F L (.lst (rs.map V.int))) T (.tup [.int v, .ref L]), w.H⟩ := la.updF h7 b2
    have fl : FLe w.F (upd (upd w.F L (.lst (rs.map V.int))) T (.tup [.int v, .ref L])) := (FLe.new h9).trans (FLe.new b2)
    refine ⟨⟨upd (upd w.F L (.lst (rs.map V.int))) T (.tup [.int v, .ref L]), w.H⟩, rfl, gb, fl, lb, vs ++ [.ref T], h1, ?_, h3, ?_, by rw [List.length_append, List.length_append, lv]; rfl⟩
    · show upd (upd w.F L (.lst (rs.map V.int))) T (.tup [.int v, .ref L]) p = none
      rw [upd_ne npT, upd_ne h11]
      exact h2
    · rw [List.map_append]
      have eL : upd (upd w.F L (.lst (rs.map V.int))) T (.tup [.int v, .ref L]) L = some (.lst (rs.map V.int)) := by rw [upd_ne (Ne.symm nTL), upd_same]
      exact (h4.mono fl).append (.cons (.tup (.inl (.inl upd_same)) (.cons .int (.cons (.lst eL (ints_reps rs)) .nil))) .nil)
theorem dpAll_reps {K : PySem.W.Frag} {F H : Hp} (fl : FLe F H) {vs : List V} {ds : List D} (r : Reps K F vs ds) (h : ∀ d ∈ ds, pln 50 d = true) : DpAll K H vs (toPys ds) := by
  induction ds generalizing vs with
  | nil =>
    cases r
    simpa [toPys] using DpAll.nil
  | cons d ds ih =>
    cases r with
    | cons r1 r2 =>
      simp only [toPys]
      exact DpAll.cons (pln_dp fl 50 d _ (h d List.mem_cons_self) r1) (ih r2 fun x hx => h x (List.mem_cons_of_mem _ hx))
theorem dp_ints {K : PySem.W.Frag} {H : Hp} : ∀ rs : List Int, DpAll K H (rs.map V.int) (rs.map PyData.int)
  | [] => .nil
  | r :: rs => .cons (.int r) (dp_ints rs)
theorem pln_eG (g : Grp) : pln 50 (eG g) = true := by
  have h1 := pln_mono (n := 49) (by decide) (pn_eIs.pl g.2)
  show [D.int g.1, eIs g.2].all (pln 49) = true
  simp only [List.all_cons, List.all_nil, h1, Bool.and_true]
  rfl
theorem toPy_eG (g : Grp) : toPy (eG g) = .tuple [.int g.1, .list (g.2.map PyData.int)] := by
  rw [toPy_tup, toPys_cons, toPys_cons, toPy_eIs]
  simp [toPy, toPys]
theorem toPys_map {α : Type} (e : α → D) : ∀ l : List α, toPys (l.map e) = l.map fun x => toPy (e x)
  | [] => by simp [toPys]
  | a :: l => by rw [List.map_cons, toPys_cons, List.map_cons, toPys_map e l]
theorem GrH.dp {K : PySem.W.Frag} {TB : Tbs} {w0 w : Wd} {p : Addr} {gs : List Grp} (h : GrH K w0 p w gs) (g : Good TB w) : Dp K w.H (.ref p) (toPy (.lst (gs.map eG))) := by
  cases h with
  | nil h1 h2 h3 =>
    rw [toPy_lst]
    simp only [List.map_nil, toPys]
    exact Dp.lst (.inl (.inl h1)) .nil
  | @cons gs vs v rs T L h1 h2 h3 h4 h5 h6 h7 h8 h9 h10 h11 =>
    rw [toPy_lst, List.map_append]
    have app : ∀ {vs : List V} {ds : List D} {u : V} {d : PyData}, DpAll K w.H vs (toPys ds) → Dp K w.H u d → DpAll K w.H (vs ++ [u]) (toPys ds ++ [d]) := by
      intro vs ds
      induction ds generalizing vs with
      | nil =>
        intro u d q r
        simp only [toPys] at q ⊢
        cases q
        exact .cons r .nil
      | cons x ds ih =>
        intro u d q r
        simp only [toPys] at q ⊢
        cases q with
        | cons q1 q2 => exact .cons q1 (ih q2 r)
    have e : toPys (gs.map eG ++ [(v, rs)].map eG) = toPys (gs.map eG) ++ [toPy (eG (v, rs))] := by
      rw [toPys_map, ← List.map_append, toPys_map, List.map_append]
      rfl
    rw [e]
    refine Dp.lst (.inl (.inl h1)) (app (dpAll_reps g.sub h4 fun d hd => ?_) ?_)
    · obtain ⟨x, _, rfl⟩ := List.mem_map.mp hd
      exact pln_eG x
    · rw [toPy_eG]
      exact Dp.tup (.inl (.inl h5)) (.cons (.int v) (.cons (.lst (.inl (.inl h8)) (dp_ints rs)) .nil))
theorem gs_shaped (gs : List Grp) : SeqAt.shaped (toPy (.lst (gs.map eG))) = true := pln_shaped (d := .lst (gs.map eG)) (by
  show (gs.map eG).all (pln 59) = true
  rw [List.all_eq_true]
  intro d hd
  obtain ⟨x, _, rfl⟩ := List.mem_map.mp hd
  exact pln_mono (by decide) (pln_eG x))
theorem gs_eqNil (gs : List Grp) : PyData.eqv (toPy (.lst (gs.map eG))) (.list []) = gs.isEmpty := by
  rw [toPy_lst, toPys_map]
  cases gs with
  | nil => simp [PyData.eqv, PyData.eqvAll]
  | cons a l => simp [PyData.eqv, PyData.eqvAll]
section
variable {TB : Tbs} {X : Cx} {w0 w : Wd} {σ : L2.St} {env : List Sl} {p T L : Addr} {vs : List V} {u : V} {v : Int} {n : Str} {p1 p2 p3 p4 p5 p6 : Pos} {j j2 : Nat}
/-- x[-1], x a list at p -/
theorem run_last {Q : VK} (k : Ok X.K TB w0 w σ env) (s : σ[3]? = some (some (.ref p))) (h : w.H p = some (.lst (vs ++ [u]))) (q : ∀ w', Good TB w' → Le w w' → Q u w'.H) (hN : X.N[3]? = some n) (hv : Vis X.env.scope n) (hd : (n == ("__debug__" : Str)) = false) (hcd : (n == ("__classdict__" : Str)) = false) :
    RunE X (.Subscript (.Name n p1) (.UnaryOp .USub (.Constant (.int 1) j p2) p3) p4) σ w.H Q :=
  runE (pe_ix (ix_list.or ix_tup) (pe_var hN hv hd hcd) (pe_w _) (fun _ _ => rfl)) ⟨.ref p, s, (pd_neg pd_int) w0 w σ _ k fun y w2 g2 l2 r2 => by
    cases r2
    exact .inl ⟨p, vs ++ [u], -1, u, rfl, rfl, .inl (.inl (l2.h _ _ h fun _ z => by cases z)), atI_last _ _, q w2 g2 l2⟩⟩
/-- x[-1][c], the last a pair -/
theorem run_part {Q : VK} {a b : V} {c : Int} {t : V} (k : Ok X.K TB w0 w σ env) (s : σ[3]? = some (some (.ref p))) (h : w.H p = some (.lst (vs ++ [.ref T]))) (hT : w.H T = some (.tup [a, b])) (hc : (c = 0 ∧ t = a) ∨ (c = 1 ∧ t = b)) (q : ∀ w', Good TB w' → Le w w' → Q t w'.H) (hN : X.N[3]? = some n) (hv : Vis X.env.scope n) (hd : (n == ("__debug__" : Str)) = false) (hcd : (n == ("__classdict__" : Str)) = false) :
    RunE X (.Subscript (.Subscript (.Name n p1) (.UnaryOp .USub (.Constant (.int 1) j p2) p3) p4) (.Constant (.int c) j2 p5) p6) σ w.H Q :=
  runE (pe_ix (ix_list.or ix_tup) (pe_w _) (pe_w _) (fun _ _ => rfl)) (run_last k s h (fun w1 g1 l1 => (pd_int (TB := TB)) w0 w1 σ _ (k.mono g1 l1) fun y w2 g2 l2 r2 => by
    cases r2
    have hT2 : w2.H T = some (.tup [a, b]) := l2.h _ _ (l1.h _ _ hT fun _ z => by cases z) fun _ z => by cases z
    refine .inr ⟨T, [a, b], c, t, rfl, rfl, .inl (.inl hT2), ?_, q w2 g2 (l1.trans l2)⟩
    rcases hc with ⟨rfl, rfl⟩ | ⟨rfl, rfl⟩
    · exact atI0 _ _
    · exact atI1 _ _ _) hN hv hd hcd)
/-- x[-1][1].append(y) -/
theorem run_push {D' : Ends} {row : Int} {ny : Str} {py a1 a2 pos : Pos} {gs : List Grp} {rs : List Int} (k : Ok X.K TB w0 w σ env) (hf : ∀ (i : Nat) (x : OO), env[i]? ≠ some (Sl.o x)) (s : σ[3]? = some (some (.ref p))) (hy : env[4]? = some (Sl.d (.int row))) (h1 : w.H p = some (.lst (vs ++ [.ref T]))) (h2 : w.F p = none) (h3 : Nw w0 p) (h4 : Reps X.K w.F vs (gs.map eG)) (h5 : w.H T = some (.tup [.int v, .ref L])) (h6 : w.F T = none) (h7 : Nw w0 T) (h8 : w.H L = some (.lst (rs.map V.int))) (h9 : w.F L = none) (h10 : Nw w0 L) (h11 : p ≠ L) (hl : rs.length < 100000)
    (q : ∀ w', FLe w.F w'.F → Ok X.K TB w0 w' σ env → GrH X.K w0 p w' (gs ++ [(v, rs ++ [row])]) → D'.nx σ w'.H) (hN : X.N[3]? = some n) (hv : Vis X.env.scope n) (hd : (n == ("__debug__" : Str)) = false) (hcd : (n == ("__classdict__" : Str)) = false) (hNy : X.N[4]? = some ny) (hvy : Vis X.env.scope ny) (hdy : (ny == ("__debug__" : Str)) = false) (hcdy : (ny == ("__classdict__" : Str)) = false)
    (hbase : attributeBase (.Subscript (.Subscript (.Name n p1) (.UnaryOp .USub (.Constant (.int 1) j p2) p3) p4) (.Constant (.int 1) j2 p5) p6) "append" X.env (eval (.Subscript (.Subscript (.Name n p1) (.UnaryOp .USub (.Constant (.int 1) j p2) p3) p4) (.Constant (.int 1) j2 p5) p6) X.env) = eval (.Subscript (.Subscript (.Name n p1) (.UnaryOp .USub (.Constant (.int 1) j p2) p3) p4) (.Constant (.int 1) j2 p5) p6) X.env := by rfl)
    (hfew : ((backTo a2 (starEach [.Name ny py] X.env)).all (fun x => !x.1) && (backToKw a2 (keywordEach [] X.env)).all (fun x => x.1.isSome) && decide (([.Name ny py] : List Expr).length + ([] : List Keyword).length + (if ([] : List Keyword).isEmpty then 0 else 1) < 30)) = true := by rfl)
    (hline : (a1.endLine == a2.line) = true := by rfl) (hst : starEach [.Name ny py] X.env = (false, eval (.Name ny py) X.env) :: starEach [] X.env := by rfl) (hpl : (backTo a2 (starEach [] X.env)).any (·.1) = false := by rfl)
    (hs : swapsWith (.Call (.Attribute (.Subscript (.Subscript (.Name n p1) (.UnaryOp .USub (.Constant (.int 1) j p2) p3) p4) (.Constant (.int 1) j2 p5) p6) "append" a1) [.Name ny py] [] a2) none pos.line X.env = pure false := by rfl) :
    RunS1 X (.Expr (.Call (.Attribute (.Subscript (.Subscript (.Name n p1) (.UnaryOp .USub (.Constant (.int 1) j p2) p3) p4) (.Constant (.int 1) j2 p5) p6) "append" a1) [.Name ny py] [] a2) pos) D' σ w.H := by
  refine runS1 (ps_expr (pe_bm PySem.F.plainAttrs_list PySem.F.slot_list_append PySem.F.type_list_append (mt_append) (pe_w _) (pa_cons (pe_var hNy hvy hdy hcdy) pa_nil hst) hbase hfew hline hst hpl) hs) ?_
  refine run_part k s h1 h5 (.inr ⟨rfl, rfl⟩) (fun w1 g1 l1 => ?_) hN hv hd hcd
  have h8' : w1.H L = some (.lst (rs.map V.int)) := l1.h _ _ h8 fun _ z => by cases z
  have h9' : w1.F L = none := (l1.n _ _ h8 fun _ z => by cases z).trans h9
  have k1 := k.mono g1 l1
  obtain ⟨y, sy, ry⟩ := k1.dat 4 _ hy
  cases ry
  refine ⟨.inl ⟨rfl, _, .inl (.inl h8')⟩, .int row, sy, L, rs.map V.int, .int row, rfl, rfl, h8', by rw [List.length_map]; exact size_lt hl, ?_⟩
  have h1' : w1.H p = some (.lst (vs ++ [.ref T])) := l1.h _ _ h1 fun _ z => by cases z
  have h5' : w1.H T = some (.tup [.int v, .ref L]) := l1.h _ _ h5 fun _ z => by cases z
  have nTL : T ≠ L := fun z => by
    rw [z, h8'] at h5'
    cases h5'
  have g2 : Good TB ⟨w1.F, upd w1.H L (.lst (rs.map V.int ++ [.int row]))⟩ := g1.own h9' (tabs_upd g1.tb h8')
  refine q ⟨w1.F, upd w1.H L (.lst (rs.map V.int ++ [.int row]))⟩ l1.f (k1.far hf g2 (FLe.refl _) (k1.le.updO h10)) (.cons (vs := vs) (T := T) (L := L) ?_ ((l1.n _ _ h1 fun _ z => by cases z).trans h2) h3 (h4.mono l1.f) ?_ ((l1.n _ _ h5 fun _ z => by cases z).trans h6) h7 ?_ h9' h10 h11)
  · show upd w1.H L _ p = _
    rw [upd_ne h11]
    exact h1'
  · show upd w1.H L _ T = _
    rw [upd_ne nTL]
    exact h5'
  · show upd w1.H L _ L = _
    rw [upd_same, List.map_append]
    rfl
/-- x.append((value, [])) -/
theorem run_new {D' : Ends} {val : Int} {nv : Str} {pv pl a1 a2 pt pos : Pos} {kt : Nat} {gs : List Grp} (k : Ok X.K TB w0 w σ env) (hf : ∀ (i : Nat) (x : OO), env[i]? ≠ some (Sl.o x)) (s : σ[3]? = some (some (.ref p))) (hy : env[5]? = some (Sl.d (.int val))) (gr : GrH X.K w0 p w gs) (hgl : gs.length ≤ 90000)
    (q : ∀ w' vs T L, FLe w.F w'.F → Ok X.K TB w0 w' σ env → w'.H p = some (.lst (vs ++ [.ref T])) → w'.F p = none → Nw w0 p → Reps X.K w'.F vs (gs.map eG) → w'.H T = some (.tup [.int val, .ref L]) → w'.F T = none → Nw w0 T → w'.H L = some (.lst []) → w'.F L = none → Nw w0 L → p ≠ L → D'.nx σ w'.H) (hN : X.N[3]? = some n) (hv : Vis X.env.scope n) (hd : (n == ("__debug__" : Str)) = false) (hcd : (n == ("__classdict__" : Str)) = false) (hNy : X.N[5]? = some nv) (hvy : Vis X.env.scope nv) (hdy : (nv == ("__debug__" : Str)) = false) (hcdy : (nv == ("__classdict__" : Str)) = false)
    (hbase : attributeBase (.Name n p1) "append" X.env (eval (.Name n p1) X.env) = eval (.Name n p1) X.env := by rfl)
    (hfew : ((backTo a2 (starEach [.Tuple [.Name nv pv, .List [] pl] kt pt] X.env)).all (fun x => !x.1) && (backToKw a2 (keywordEach [] X.env)).all (fun x => x.1.isSome) && decide (([.Tuple [.Name nv pv, .List [] pl] kt pt] : List Expr).length + ([] : List Keyword).length + (if ([] : List Keyword).isEmpty then 0 else 1) < 30)) = true := by rfl)
    (hline : (a1.endLine == a2.line) = true := by rfl) (hst : starEach [.Tuple [.Name nv pv, .List [] pl] kt pt] X.env = (false, eval (.Tuple [.Name nv pv, .List [] pl] kt pt) X.env) :: starEach [] X.env := by rfl) (hpl : (backTo a2 (starEach [] X.env)).any (·.1) = false := by rfl)
    (hst1 : starEach [.Name nv pv, .List [] pl] X.env = (false, eval (.Name nv pv) X.env) :: starEach [.List [] pl] X.env := by rfl) (hst2 : starEach [Expr.List [] pl] X.env = (false, eval (.List [] pl) X.env) :: starEach [] X.env := by rfl)
    (hs : swapsWith (.Call (.Attribute (.Name n p1) "append" a1) [.Tuple [.Name nv pv, .List [] pl] kt pt] [] a2) none pos.line X.env = pure false := by rfl) :
    RunS1 X (.Expr (.Call (.Attribute (.Name n p1) "append" a1) [.Tuple [.Name nv pv, .List [] pl] kt pt] [] a2) pos) D' σ w.H := by
  obtain ⟨w2, e2, g2, f2, l2, us, hp, hpF, hpn, hr, hul⟩ := gr.freeze k.good k.le
  rw [← e2]
  have k2 : Ok X.K TB w0 w2 σ env := k.far hf g2 f2 l2
  refine runS1 (ps_expr (pe_bm PySem.F.plainAttrs_list PySem.F.slot_list_append PySem.F.type_list_append (mt_append) (pe_var hN hv hd hcd) (pa_cons (pe_tup (pa_cons (pe_var hNy hvy hdy hcdy) (pa_cons (pe_lst pa_nil) pa_nil hst2) hst1)) pa_nil hst) hbase hfew hline hst hpl) hs) ?_
  obtain ⟨y, sy, ry⟩ := k2.dat 5 _ hy
  cases ry
  refine ⟨.ref p, s, .inl ⟨rfl, _, .inl (.inl hp)⟩, .int val, sy, Nat.zero_le _, fun L hL => ⟨by simp only [List.length_cons, List.length_nil]; exact size_small (by decide), fun T hT => ?_⟩⟩
  have npL : p ≠ L := fun z => by rw [z, hL] at hp; cases hp
  have nTL : T ≠ L := fun z => by
    rw [z, upd_same] at hT
    cases hT
  have npT : p ≠ T := fun z => by
    rw [← z, upd_ne npL, hp] at hT
    cases hT
  have hT0 : w2.H T = none := by rw [upd_ne nTL] at hT; exact hT
  have hp2 : upd (upd w2.H L (.lst [])) T (.tup [.int val, .ref L]) p = some (.lst us) := by rw [upd_ne npT, upd_ne npL]; exact hp
  refine ⟨p, us, .ref T, rfl, rfl, hp2, size_lt (by omega), ?_⟩
  have hFL := g2.fresh hL
  have hFT := g2.fresh hT0
  have nL := nw_of l2 hL
  have nT := nw_of l2 hT0
  have ga : Good TB ⟨w2.F, upd w2.H L (.lst [])⟩ := g2.own hFL (tabs_new g2.tb hL)
  have gb : Good TB ⟨w2.F, upd (upd w2.H L (.lst [])) T (.tup [.int val, .ref L])⟩ := ga.own hFT (tabs_new ga.tb hT)
  have gc : Good TB ⟨w2.F, upd (upd (upd w2.H L (.lst [])) T (.tup [.int val, .ref L])) p (.lst (us ++ [.ref T]))⟩ := gb.own hpF (tabs_upd gb.tb hp2)
  have lc : Le w0 ⟨w2.F, upd (upd (upd w2.H L (.lst [])) T (.tup [.int val, .ref L])) p (.lst (us ++ [.ref T]))⟩ := (((l2.updO nL).updO nT).updO hpn)
  refine q ⟨w2.F, upd (upd (upd w2.H L (.lst [])) T (.tup [.int val, .ref L])) p (.lst (us ++ [.ref T]))⟩ us T L f2 (k2.far hf gc (FLe.refl _) lc) upd_same hpF hpn hr ?_ hFT nT ?_ hFL nL npL
  · show upd _ p _ T = _
    rw [upd_ne (Ne.symm npT), upd_same]
  · show upd _ p _ L = _
    rw [upd_ne (Ne.symm npL), upd_ne (Ne.symm nTL), upd_same]
end
section
variable {TB : Tbs} {P : Program} {w : World} {K : PySem.W.Frag} {mg : Str → Option Value} {base : Heap} {Za : Ads}
theorem F_groups_in (Z : Fx TB w K mg base Za) : FnR TB P w K mg base "groups_in" ["table", "sorting", "shown"] 4 (fun ds res => ∃ (wd : Nat) (rows : List (List Int)) (s : List Key) (o : List Int), ds = [eTable Za wd rows, eKs s, eIs o] ∧ ((Tb wd rows ∧ Srt wd s) ∧ ((∀ r ∈ o, 0 ≤ r ∧ r < rows.length) ∧ o.length ≤ 1000)) ∧ res = .lst ((groupsIn rows s o).map eG)) :=
  FnR.mk' (N := ["table", "sorting", "shown", "found", "row", "value"]) Z.groups_in ⟨rfl, rfl, rfl, by decide +kernel, rfl, by decide +kernel, by decide +kernel⟩ (by
    rintro ds res ⟨wd, rows, s, o, rfl, h, rfl⟩
    rfl) fun f cdv A outer s0 H0 E hr => by
    rintro ds res ⟨wd, rows, s, o, rfl, h, rfl⟩
    have nd : (["table", "sorting", "shown", "found", "row", "value"] : List Str).Nodup := by decide +kernel
    obtain ⟨⟨h1, h2⟩, h3, h4⟩ := h
    have hul := hr.units
    refine sd_own 3 ?_ nd
    cases s with
    | nil =>
      refine sd_when (pt_c (pcd_eqE pn_eKs hul (x := ([] : List Key)) (y := []) (pd_var 1) (pd_lst pds_nil))) (fun _ => ?_) fun z => by simp at z
      refine sd_weak (Weak.fzAt 3 rfl) ?_
      exact sd_ret (pd_var 3) rfl
    | cons key s =>
      refine sd_when (pt_c (pcd_eqE pn_eKs hul (x := key :: s) (y := []) (pd_var 1) (pd_lst pds_nil))) (fun z => by simp at z) fun _ => ?_
      refine sd_cons fun w0 wv σ D' k en => ?_
      obtain ⟨p, h0, sp, hp, hfp, hnp, r⟩ := k.own 3 _ rfl
      cases h0 <;> first | exact r.elim | skip
      rename_i vs0
      have r : Reps K wv.F vs0 [] := r
      cases r
      obtain ⟨env0, henv0⟩ : ∃ env0 : List Sl, env0 = [.d (eTable Za wd rows), .d (eKs (key :: s)), .d (eIs o), .no, .no, .no] := ⟨_, rfl⟩
      have k0 : Ok K TB w0 wv σ env0 := by rw [henv0]; exact k.drop 3
      have hno : ∀ (l : List Sl), noOwn l = true → ∀ (i : Nat) (x : OO), l[i]? ≠ some (Sl.o x) := fun l h => noOwn_at h
      refine runS1 (ps_for (by exact PassesOwn.never) rfl (pi_w _ _) (pg_w _) (pss_w _)) ((pid_list (xs := o.map D.int) (pd_var 2)) w0 wv σ _ k fun J w1 g1 l1 it => ?_)
      have k1 := k0.mono g1 l1
      refine ⟨fun i m σ' H' => m = o.length - i ∧ i ≤ o.length ∧ ∃ w', w'.H = H' ∧ FLe w1.F w'.F ∧ Ok K TB w0 w' σ' env0 ∧ σ'[3]? = some (some (.ref p)) ∧ GrH K w0 p w' (groupsOf rows key.1 (o.take i)), ⟨o.length, by simp, Nat.zero_le _, w1, rfl, FLe.refl _, k1, sp, (GrH.nil hp hfp hnp).mono l1⟩, ?_⟩
      rintro i m σ' H' ⟨rfl, hle, w', rfl, f', k', s3, gr⟩
      by_cases hlt : i < o.length
      · obtain ⟨go, yl⟩ := it.1 i w' k'.good f' (by rw [List.length_map]; exact hlt)
        refine .inr ⟨go, fun σ2 H2 => i + 1 ≤ o.length ∧ ∃ w', w'.H = H2 ∧ FLe w1.F w'.F ∧ Ok K TB w0 w' σ2 env0 ∧ σ2[3]? = some (some (.ref p)) ∧ GrH K w0 p w' (groupsOf rows key.1 (o.take (i + 1))), fun σ2 H2 ⟨a, b⟩ => ⟨o.length - (i + 1), by omega, rfl, a, b⟩, fun v H2 y => ?_⟩
        obtain ⟨w2, rfl, g2, l2, r2⟩ := yl v H2 y
        have r2 := r2 (.int o[i]) (by rw [List.getElem?_map, List.getElem?_eq_getElem hlt]; rfl)
        obtain ⟨row, hrow⟩ : ∃ row, row = o[i] := ⟨_, rfl⟩
        rw [← hrow] at r2
        have hri := h3 row (by rw [hrow]; exact List.getElem_mem hlt)
        have htake : o.take (i + 1) = o.take i ++ [row] := by rw [List.take_add_one, List.getElem?_eq_getElem hlt, hrow]; rfl
        have hgs : groupsOf rows key.1 (o.take (i + 1)) = groupStep (groupsOf rows key.1 (o.take i)) (cellAt rows row key.1) row := by
          unfold groupsOf
          rw [htake, List.foldl_append]
          rfl
        rw [hgs]
        obtain ⟨gs, hgsd⟩ : ∃ gs, gs = groupsOf rows key.1 (o.take i) := ⟨_, rfl⟩
        obtain ⟨val, hval⟩ : ∃ val, val = cellAt rows row key.1 := ⟨_, rfl⟩
        rw [← hgsd] at gr ⊢
        rw [← hval]
        have hgl : gs.length ≤ 1000 := by
          have gen : ∀ (l : List Int) (g0 : List Grp), (l.foldl (fun gs row => groupStep gs (cellAt rows row key.1) row) g0).length ≤ g0.length + l.length := by
            intro l
            induction l with
            | nil => intro g0; exact Nat.le_refl _
            | cons a l ih =>
              intro g0
              have h1 := ih (groupStep g0 (cellAt rows a key.1) a)
              have h2 : (groupStep g0 (cellAt rows a key.1) a).length ≤ g0.length + 1 := by
                unfold groupStep
                split
                · split
                  · rw [List.length_append, List.length_dropLast, List.length_singleton]; omega
                  · rw [List.length_append, List.length_singleton]; omega
                · rw [List.length_singleton]; omega
              rw [List.foldl_cons, List.length_cons]
              omega
          have := gen (o.take i) []
          rw [List.length_take, List.length_nil] at this
          rw [hgsd]
          unfold groupsOf
          omega
        have hrsl : ∀ g ∈ gs, g.2.length ≤ 1000 := by
          have gen : ∀ (l : List Int) (g0 : List Grp) (m : Nat), (∀ g ∈ g0, g.2.length ≤ m) → ∀ g ∈ l.foldl (fun gs row => groupStep gs (cellAt rows row key.1) row) g0, g.2.length ≤ m + 1 + l.length := by
            intro l
            induction l with
            | nil => intro g0 m h0 g hg; have := h0 g hg; omega
            | cons a l ih =>
              intro g0 m h0 g hg
              rw [List.foldl_cons] at hg
              have := ih (groupStep g0 (cellAt rows a key.1) a) (m + 1) (fun x hx => by
                unfold groupStep at hx
                split at hx
                · rename_i y hy
                  have hym := h0 y (List.mem_of_getLast? hy)
                  split at hx
                  · rcases List.mem_append.mp hx with hx | hx
                    · have := h0 x (List.dropLast_subset _ hx); omega
                    · rw [List.mem_singleton.mp hx, List.length_append, List.length_singleton]; omega
                  · rcases List.mem_append.mp hx with hx | hx
                    · have := h0 x hx; omega
                    · rw [List.mem_singleton.mp hx, List.length_singleton]; omega
                · rw [List.mem_singleton.mp hx, List.length_singleton]; omega) g hg
              rw [List.length_cons]
              omega
          intro g hg
          rw [hgsd] at hg
          have := gen (o.take i) [] 0 (fun g hg => by cases hg) g hg
          rw [List.length_take] at this
          omega
        refine (pgd_name 4 nd) w0 w2 σ' v _ (k'.mono g2 l2) r2 fun σ3 k3 t3 => ?_
        have s3' : σ3[3]? = some (some (.ref p)) := (t3.2 3 (by decide)).trans s3
        have gr2 := gr.mono l2
        have f2 : FLe w1.F w2.F := f'.trans l2.f
        have k0i := (h2.keyed.2 key List.mem_cons_self).1
        have k1i := h2.inw key List.mem_cons_self
        have hrl : row.toNat < rows.length := by omega
        have hrw := h1.each _ (List.getElem_mem hrl)
        have hcl : key.1.toNat < rows[row.toNat].length := by omega
        have hcell : val = rows[row.toNat][key.1.toNat] := by
          rw [hval]
          unfold cellAt
          rw [List.getElem?_eq_getElem hrl, Option.getD_some, List.getElem?_eq_getElem hcl, Option.getD_some]
        -- value = ..
        have kk : Ok K TB w0 w2 σ3 [.d (eTable Za wd rows), .d (eKs (key :: s)), .d (eIs o), .no, .d (.int row), .no] := by
          rw [henv0] at k3
          exact k3
        refine runS (pss_cons (ps_set nd (i := 5) rfl (.inl rfl) (pe_w _) rfl (.inr rfl)) (pss_w _)) ((show PD TB _ _ [.d (eTable Za wd rows), .d (eKs (key :: s)), .d (eIs o), .no, .d (.int row), .no] (.int val) from (pd_meth (F_Table_cell Z) (hr.mono (by decide)) (pd_var 0) (pds_cons (pd_var 4) (pds_cons (pd_ix (pd_ix (d := eK key) (pd_var 1) pd_int (.inl rfl) (atI0 _ _)) pd_int (.inr rfl) (atI0 _ _)) pds_nil)) ⟨wd, rows, row.toNat, key.1.toNat, rows[row.toNat], val, by rw [Int.toNat_of_nonneg hri.1, Int.toNat_of_nonneg k0i], ⟨⟨List.getElem?_eq_getElem hrl, by rw [hcell]; exact List.getElem?_eq_getElem hcl⟩, by omega⟩, rfl⟩ (by decide))) w0 w2 σ3 _ kk fun v4 w4 g4 l4 r4 => ?_)
        cases r4
        have k4 : Ok K TB w0 w4 (σ3.set 5 (some (.int val))) [.d (eTable Za wd rows), .d (eKs (key :: s)), .d (eIs o), .no, .d (.int row), .d (.int val)] := (kk.mono g4 l4).set (i := 5) (x := .int val) .int
        obtain ⟨σ4, hσ4⟩ : ∃ σ4, σ4 = σ3.set 5 (some (V.int val)) := ⟨_, rfl⟩
        rw [← hσ4] at k4
        have s4 : σ4[3]? = some (some (.ref p)) := by rw [hσ4, List.getElem?_set_ne (by decide)]; exact s3'
        have gr4 := gr2.mono l4
        have f4 : FLe w1.F w4.F := f2.trans l4.f
        show RunS _ _ _ (σ3.set 5 (some (V.int val))) w4.H
        rw [← hσ4]
        have hno0 := hno [.d (eTable Za wd rows), .d (eKs (key :: s)), .d (eIs o), .no, .d (.int row), .d (.int val)] rfl
        have toN : ∀ (w6 : Wd), FLe w4.F w6.F → Ok K TB w0 w6 σ4 [.d (eTable Za wd rows), .d (eKs (key :: s)), .d (eIs o), .no, .d (.int row), .d (.int val)] → GrH K w0 p w6 (groupStep gs val row) → i + 1 ≤ o.length ∧ ∃ w', w'.H = w6.H ∧ FLe w1.F w'.F ∧ Ok K TB w0 w' σ4 env0 ∧ σ4[3]? = some (some (.ref p)) ∧ GrH K w0 p w' (groupStep gs val row) := fun w6 f6 k6 gr6 => ⟨hlt, w6, rfl, f4.trans f6, by
          rw [henv0]
          exact (k6.drop 4).drop 5, s4, gr6⟩
        -- the test
        refine runS (pss_cons (ps_if (pt_w _) (pss_w _) (pss_w _)) (pss_w _)) ?_
        refine runT (PW.pt (pw_or (pt_cmp (pc_op (op_eqD hul) (pe_var (i := 3) rfl (.inl rfl) (by decide) (by decide)) (pe_lst pa_nil)) (by first | exact nobehind _ (by decide) (by decide) | rfl)) (pw_or1 (pt_cmp (pc_op op_ne (pe_w _) (pe_var (i := 5) rfl (.inl rfl) (by decide) (by decide))) (by first | exact nobehind _ (by decide) (by decide) | rfl))))) ?_
        refine ⟨.ref p, s4, Nat.zero_le _, fun q' hq => ?_⟩
        have g5 : Good TB ⟨w4.F, upd w4.H q' (.lst [])⟩ := k4.good.own (k4.good.fresh hq) (tabs_new k4.good.tb hq)
        have l5 : Le w4 ⟨w4.F, upd w4.H q' (.lst [])⟩ := Le.own hq
        have k5 := k4.mono g5 l5
        have gr5 := gr4.mono l5
        refine ⟨toPy (.lst (gs.map eG)), .list [], gr5.dp g5, Dp.lst (.inl (.inl upd_same)) .nil, gs_shaped gs, rfl, ?_⟩
        rw [gs_eqNil]
        refine ⟨gs.isEmpty, rfl, ?_⟩
        cases gr5 with
        | nil h1 h2 h3 =>
          refine Eq.mpr (if_pos rfl) (iteT ?_)
          have hst0 : groupStep [] val row = [] ++ [(val, [row])] := rfl
          refine runS (pss_one (ps_w _)) (run_new (TB := TB) (w0 := w0) (w := ⟨w4.F, upd w4.H q' (.lst [])⟩) (gs := []) (val := val) (k4.mono g5 l5) hno0 s4 rfl (gr4.mono l5) (Nat.le_trans hgl (by decide)) (fun w7 vs7 T7 L7 f7 k7 a1 a2 a3 a4 a5 a6 a7 a8 a9 a10 a11 => ?_) rfl (.inl rfl) (by decide) (by decide) rfl (.inl rfl) (by decide) (by decide))
          refine runS (pss_one (ps_w _)) (run_push (TB := TB) (w0 := w0) (w := w7) (row := row) (rs := []) k7 hno0 s4 rfl a1 a2 a3 a4 a5 a6 a7 a8 a9 a10 a11 (by decide) (fun w8 f8 k8 gr8 => toN w8 ((l5.f.trans f7).trans f8) k8 (by rw [hst0]; exact gr8)) rfl (.inl rfl) (by decide) (by decide) rfl (.inl rfl) (by decide) (by decide))
        | @cons gs0 vs v rs T L h1 h2 h3 h4 h5 h6 h7 h8 h9 h10 h11 =>
          have he : (gs0 ++ [(v, rs)]).isEmpty = false := by cases gs0 <;> rfl
          rw [he]
          refine iteF ?_
          refine run_part k5 s4 h1 h5 (.inl ⟨rfl, rfl⟩) (fun w6 g6 l6 => ?_) rfl (.inl rfl) (by decide) (by decide)
          have hv5 : σ4[5]? = some (some (V.int val)) := by
            rw [hσ4, List.getElem?_set_self]
            rw [← (kk.len)]
            simp
          refine ⟨.int val, hv5, rfl, ?_⟩
          refine ⟨_, rfl, ?_⟩
          by_cases hvv : v = val
          · have ev : (!decide (V.int v = V.int val)) = false := by rw [hvv]; simp
            have hstep : groupStep (gs0 ++ [(v, rs)]) val row = gs0 ++ [(v, rs ++ [row])] := by simp [groupStep, hvv]
            rw [ev]
            refine iteF (runS pss_nil (runS (pss_one (ps_w _)) ?_))
            have gr6 := (GrH.cons h1 h2 h3 h4 h5 h6 h7 h8 h9 h10 h11).mono l6
            exact run_push (TB := TB) (w0 := w0) (w := w6) (row := row) (rs := rs) (gs := gs0) (k5.mono g6 l6) hno0 s4 rfl (l6.h _ _ h1 fun _ z => by cases z) ((l6.n _ _ h1 fun _ z => by cases z).trans h2) h3 (h4.mono l6.f) (l6.h _ _ h5 fun _ z => by cases z) ((l6.n _ _ h5 fun _ z => by cases z).trans h6) h7 (l6.h _ _ h8 fun _ z => by cases z) ((l6.n _ _ h8 fun _ z => by cases z).trans h9) h10 h11 (Nat.lt_of_le_of_lt (show rs.length ≤ 1000 from hrsl (v, rs) (by simp)) (by decide)) (fun w8 f8 k8 gr8 => toN w8 ((l5.f.trans l6.f).trans f8) k8 (by rw [hstep]; exact gr8)) rfl (.inl rfl) (by decide) (by decide) rfl (.inl rfl) (by decide) (by decide)
          · have ev : (!decide (V.int v = V.int val)) = true := by
              have : ¬ V.int v = V.int val := fun z => hvv (V.int.inj z)
              simp [this]
            have hstep : groupStep (gs0 ++ [(v, rs)]) val row = (gs0 ++ [(v, rs)]) ++ [(val, [row])] := by simp [groupStep, hvv]
            rw [ev]
            refine iteT ?_
            refine runS (pss_one (ps_w _)) (run_new (TB := TB) (w0 := w0) (w := w6) (gs := gs0 ++ [(v, rs)]) (val := val) (k4.mono g6 (l5.trans l6)) hno0 s4 rfl (gr4.mono (l5.trans l6)) (Nat.le_trans hgl (by decide)) (fun w7 vs7 T7 L7 f7 k7 a1 a2 a3 a4 a5 a6 a7 a8 a9 a10 a11 => ?_) rfl (.inl rfl) (by decide) (by decide) rfl (.inl rfl) (by decide) (by decide))
            refine runS (pss_one (ps_w _)) (run_push (TB := TB) (w0 := w0) (w := w7) (row := row) (rs := []) k7 hno0 s4 rfl a1 a2 a3 a4 a5 a6 a7 a8 a9 a10 a11 (by decide) (fun w8 f8 k8 gr8 => toN w8 (((l5.trans l6).f.trans f7).trans f8) k8 (by rw [hstep]; exact gr8)) rfl (.inl rfl) (by decide) (by decide) rfl (.inl rfl) (by decide) (by decide))
      · have e : i = o.length := by omega
        subst e
        rw [List.take_length] at gr
        refine .inl ⟨by have := it.2 w' k'.good f'; rwa [List.length_map] at this, ?_⟩
        obtain ⟨w2, e2, g2, f2, l2, us, hp2, hpF, hpn, hr2, _⟩ := gr.freeze k'.good k'.le
        rw [← e2]
        have hn0 := hno env0 (by rw [henv0]; rfl)
        have k2 : Ok K TB w0 w2 σ' env0 := k'.far hn0 g2 f2 l2
        have g3 : Good TB ⟨upd w2.F p (.lst us), w2.H⟩ := g2.frz hp2 fun _ z => by cases z
        have l3 : Le w0 ⟨upd w2.F p (.lst us), w2.H⟩ := l2.updF hpn hpF
        have f3 : FLe w2.F (upd w2.F p (.lst us)) := FLe.new hpF
        have k3 : Ok K TB w0 ⟨upd w2.F p (.lst us), w2.H⟩ σ' env0 := k2.far hn0 g3 f3 l3
        have rp : Rep K (upd w2.F p (.lst us)) (.ref p) (.lst ((groupsOf rows key.1 o).map eG)) := .lst upd_same (hr2.mono f3)
        have k4 := k3.set (i := 3) rp
        have eσ : σ'.set 3 (some (V.ref p)) = σ' := by
          refine List.ext_getElem? fun t => ?_
          by_cases z : 3 = t
          · subst z
            rw [List.getElem?_set_self (List.getElem?_eq_some_iff.mp s3).1, s3]
          · rw [List.getElem?_set_ne z]
        rw [eσ] at k4
        refine en.nx ⟨upd w2.F p (.lst us), w2.H⟩ σ' _ k4 ((l1.f.trans f').trans (f2.trans f3)) ?_
        rw [henv0]
        exact sd_ret (pd_var 3) rfl
end
end Lw
set_option Elab.async false
set_option linter.all false
set_option maxRecDepth 100000
set_option maxHeartbeats 4000000
/-! # views -/
namespace Lw
open PySem PySem.Spec PyProof.Rows L2
inductive Ln where
  | head (v n : Int) | row (r : Int)
def eLn : Ln → D
  | .head v n => .tup [.str "head", .int v, .int n]
  | .row r => .tup [.str "row", .int r]
def lnRow : Ln → Option Int
  | .head _ _ => none
  | .row r => some r
def linesIn (gs : List Grp) : List Ln := gs.flatMap fun g => Ln.head g.1 (g.2.length : Nat) :: g.2.map Ln.row
def viewLines (rows : List (List Int)) (s : List Key) : List Ln :=
  match s with
  | [] => (orderIn rows []).map Ln.row
  | k :: t => linesIn (groupsIn rows (k :: t) (orderIn rows (k :: t)))
theorem lnRow_rows (l : List Int) : (l.map Ln.row).filterMap lnRow = l := by
  induction l with
  | nil => rfl
  | cons a l ih => rw [List.map_cons, List.filterMap_cons]; simp only [lnRow]; rw [ih]
theorem linesIn_rows (gs : List Grp) : (linesIn gs).filterMap lnRow = gs.flatMap (·.2) := by
  unfold linesIn
  induction gs with
  | nil => rfl
  | cons g gs ih =>
    rw [List.flatMap_cons, List.filterMap_append, ih, List.flatMap_cons, List.filterMap_cons]
    simp only [lnRow]
    rw [lnRow_rows]
theorem step_rows (gs : List Grp) (v row : Int) : (groupStep gs v row).flatMap (·.2) = gs.flatMap (·.2) ++ [row] := by
  unfold groupStep
  split
  · rename_i g hg
    have e : gs = gs.dropLast ++ [g] := by
      have := List.getLast?_eq_some_iff.mp hg
      obtain ⟨ys, rfl⟩ := this
      simp
    split
    · conv => rhs; rw [e]
      rw [List.flatMap_append, List.flatMap_append]
      simp
    · rw [List.flatMap_append]
      simp
  · rename_i hg
    rw [List.getLast?_eq_none_iff.mp hg]
    simp
theorem groupsOf_rows (rows : List (List Int)) (c : Int) (o : List Int) : (groupsOf rows c o).flatMap (·.2) = o := by
  have gen : ∀ (l : List Int) (g0 : List Grp), (l.foldl (fun gs row => groupStep gs (cellAt rows row c) row) g0).flatMap (·.2) = g0.flatMap (·.2) ++ l := by
    intro l
    induction l with
    | nil => intro g0; simp
    | cons a l ih => intro g0; rw [List.foldl_cons, ih, step_rows]; simp
  have := gen o []
  rw [List.flatMap_nil, List.nil_append] at this
  exact this
theorem step_length (gs : List Grp) (v row : Int) : (groupStep gs v row).length ≤ gs.length + 1 := by
  unfold groupStep
  split
  · split
    · rw [List.length_append, List.length_dropLast, List.length_singleton]; omega
    · rw [List.length_append, List.length_singleton]; omega
  · rw [List.length_singleton]; omega
theorem groupsOf_length (rows : List (List Int)) (c : Int) (o : List Int) : (groupsOf rows c o).length ≤ o.length := by
  have gen : ∀ (l : List Int) (g0 : List Grp), (l.foldl (fun gs row => groupStep gs (cellAt rows row c) row) g0).length ≤ g0.length + l.length := by
    intro l
    induction l with
    | nil => intro g0; exact Nat.le_refl _
    | cons a l ih => intro g0; rw [List.foldl_cons, List.length_cons]; have := ih (groupStep g0 (cellAt rows a c) a); have := step_length g0 (cellAt rows a c) a; omega
  have := gen o []
  rw [List.length_nil, Nat.zero_add] at this
  exact this
theorem linesIn_length (gs : List Grp) : (linesIn gs).length = gs.length + (gs.flatMap (·.2)).length := by
  unfold linesIn
  induction gs with
  | nil => rfl
  | cons g gs ih =>
    rw [List.flatMap_cons, List.flatMap_cons, List.length_append, List.length_append, ih, List.length_cons, List.length_cons, List.length_map]
    omega
theorem viewLines_rows (rows : List (List Int)) (s : List Key) : (viewLines rows s).filterMap lnRow = orderIn rows s := by
  cases s with
  | nil => exact lnRow_rows _
  | cons k t =>
    show (linesIn (groupsOf rows k.1 (orderIn rows (k :: t)))).filterMap lnRow = _
    rw [linesIn_rows, groupsOf_rows]
theorem viewLines_length (rows : List (List Int)) (s : List Key) : (viewLines rows s).length ≤ 2 * rows.length := by
  cases s with
  | nil =>
    show ((orderIn rows []).map Ln.row).length ≤ _
    rw [List.length_map, orderIn_length]
    omega
  | cons k t =>
    show (linesIn (groupsOf rows k.1 (orderIn rows (k :: t)))).length ≤ _
    rw [linesIn_length, groupsOf_rows]
    have := groupsOf_length rows k.1 (orderIn rows (k :: t))
    rw [orderIn_length] at this ⊢
    omega
abbrev eOpen (wd : Nat) : D := .lst (List.replicate wd (.tup [.non, .non]))
abbrev eFolds (wd : Nat) : D := .lst (List.replicate wd (.lst []))
abbrev viewNs : List Str := ["held_table", "held_sorting", "held_filters", "held_folds", "held_groups", "held_shown", "held_lines"]
abbrev viewVs (Z : Ads) (wd : Nat) (rows : List (List Int)) (s : List Key) : List D := [eTable Z wd rows, eKs s, eOpen wd, eFolds wd, .lst ((groupsIn rows s (orderIn rows s)).map eG), eIs (orderIn rows s), .lst ((viewLines rows s).map eLn)]
abbrev eView (Z : Ads) (wd : Nat) (rows : List (List Int)) (s : List Key) : D := .ins Z.View viewNs (viewVs Z wd rows s)
theorem order_mem {rows : List (List Int)} {s : List Key} : ∀ r ∈ orderIn rows s, 0 ≤ r ∧ r < rows.length := fun r hr => mem_rg.mp ((orderIn_perm rows s).subset hr)
section
variable {TB : Tbs} {P : Program} {w : World} {K : PySem.W.Frag} {mg : Str → Option Value} {base : Heap} {Za : Ads}
theorem F_need_from (Z : Fx TB w K mg base Za) : FnR TB P w K mg base "need_from" ["number", "least"] 1 (fun ds res => ∃ (n l : Int), ds = [.int n, .int l] ∧ (l ≤ n) ∧ res = .non) :=
  FnR.mk' (N := ["number", "least"]) Z.need_from ⟨rfl, rfl, rfl, by decide +kernel, rfl, by decide +kernel, by decide +kernel⟩ (by
    rintro ds res ⟨n, l, rfl, h, rfl⟩
    rfl) fun f cdv A outer s0 H0 E hr => by
    rintro ds res ⟨n, l, rfl, h, rfl⟩
    have nd : (["number", "least"] : List Str).Nodup := by decide +kernel
    exact sd_check ((pt_c (pcd_lt (pd_var 0) (pd_var 1))).cast (by simp; omega)) (sd_nil rfl)
theorem F_need_rooms (Z : Fx TB w K mg base Za) : FnR TB P w K mg base "need_rooms" ["rooms"] 2 (fun ds res => ∃ (a b : Int), ds = [.tup [.int a, .int b]] ∧ (0 ≤ a ∧ 0 ≤ b) ∧ res = .non) :=
  FnR.mk' (N := ["rooms", "size"]) Z.need_rooms ⟨rfl, rfl, rfl, by decide +kernel, rfl, by decide +kernel, by decide +kernel⟩ (by
    rintro ds res ⟨a, b, rfl, h, rfl⟩
    rfl) fun f cdv A outer s0 H0 E hr => by
    rintro ds res ⟨a, b, rfl, h, rfl⟩
    have nd : (["rooms", "size"] : List Str).Nodup := by decide +kernel
    refine sd_forS [a, b] D.int (fun _ => [.d (.tup [.int a, .int b]), .no]) (pid_tup (pd_var 0)) rfl (fun pre x post e => ⟨_, _, (pgd_name 1 nd), ?_⟩) (sd_nil rfl)
    have hx : 0 ≤ x := by
      have : x ∈ [a, b] := by rw [e]; simp
      rcases List.mem_cons.mp this with rfl | h2
      · exact h.1
      · rw [List.mem_singleton.mp h2]; exact h.2
    exact sd_expr (pd_call (F_need_from Z) (hr.mono (by decide)) (pds_cons ((pd_var 1)) (pds_cons (pd_int) pds_nil)) ⟨_, _, rfl, hx, rfl⟩) (sd_nil (by repeat (first | exact Weak.nil | (refine Weak.cons (by first | exact WkS.refl | exact WkS.drop | exact WkS.fz | exact WkS.of_eq (by simp )) ?_))))
theorem F_between (Z : Fx TB w K mg base Za) : FnR TB P w K mg base "between" ["number", "least", "greatest"] 1 (fun ds res => ∃ (g : Int), ds = [.int 0, .int 0, .int g] ∧ (0 ≤ g) ∧ res = .int 0) :=
  FnR.mk' (N := ["number", "least", "greatest"]) Z.between ⟨rfl, rfl, rfl, by decide +kernel, rfl, by decide +kernel, by decide +kernel⟩ (by
    rintro ds res ⟨g, rfl, h, rfl⟩
    rfl) fun f cdv A outer s0 H0 E hr => by
    rintro ds res ⟨g, rfl, h, rfl⟩
    have nd : (["number", "least", "greatest"] : List Str).Nodup := by decide +kernel
    exact sd_ret ((pd_max2 Z.bl.max (pd_var 1) (pd_min2 Z.bl.min (pd_var 2) (pd_var 0))).cast (by congr 1; repeat (first | omega | split))) rfl
theorem F_room_for (Z : Fx TB w K mg base Za) : FnR TB P w K mg base "room_for" ["lines", "height"] 1 (fun ds res => ∃ (l h : Int), ds = [.int l, .int h] ∧ (True) ∧ res = .int (max 0 (l - h))) :=
  FnR.mk' (N := ["lines", "height"]) Z.room_for ⟨rfl, rfl, rfl, by decide +kernel, rfl, by decide +kernel, by decide +kernel⟩ (by
    rintro ds res ⟨l, h, rfl, h, rfl⟩
    rfl) fun f cdv A outer s0 H0 E hr => by
    rintro ds res ⟨l, h, rfl, h, rfl⟩
    have nd : (["lines", "height"] : List Str).Nodup := by decide +kernel
    exact sd_ret ((pd_max2 Z.bl.max pd_int (pd_sub (pd_var 0) (pd_var 1))).cast (by congr 1; split <;> omega)) rfl
theorem F_room_of (Z : Fx TB w K mg base Za) : FnR TB P w K mg base "room_of" ["lines", "height"] 2 (fun ds res => ∃ (l hh : Int), ds = [.int l, .int hh] ∧ (0 ≤ l ∧ 1 ≤ hh) ∧ res = .int (max 0 (l - hh))) :=
  FnR.mk' (N := ["lines", "height"]) Z.room_of ⟨rfl, rfl, rfl, by decide +kernel, rfl, by decide +kernel, by decide +kernel⟩ (by
    rintro ds res ⟨l, hh, rfl, h, rfl⟩
    rfl) fun f cdv A outer s0 H0 E hr => by
    rintro ds res ⟨l, hh, rfl, h, rfl⟩
    have nd : (["lines", "height"] : List Str).Nodup := by decide +kernel
    refine sd_expr (pd_call (F_need_from Z) (hr.mono (by decide)) (pds_cons ((pd_var 0)) (pds_cons (pd_int) pds_nil)) ⟨_, _, rfl, h.1, rfl⟩) ?_
    refine sd_expr (pd_call (F_need_from Z) (hr.mono (by decide)) (pds_cons ((pd_var 1)) (pds_cons (pd_int) pds_nil)) ⟨_, _, rfl, h.2, rfl⟩) ?_
    exact sd_ret (pd_call (F_room_for Z) (hr.mono (by decide)) (pds_cons ((pd_var 0)) (pds_cons ((pd_var 1)) pds_nil)) ⟨_, _, rfl, True.intro, rfl⟩) rfl
theorem F_clipped (Z : Fx TB w K mg base Za) : FnR TB P w K mg base "clipped" ["rooms", "scrolls"] 3 (fun ds res => ∃ (g : Int), ds = [.tup [.int g, .int 0], .tup [.int 0, .int 0]] ∧ (0 ≤ g) ∧ res = .tup [.int 0, .int 0]) :=
  FnR.mk' (N := ["rooms", "scrolls"]) Z.clipped ⟨rfl, rfl, rfl, by decide +kernel, rfl, by decide +kernel, by decide +kernel⟩ (by
    rintro ds res ⟨g, rfl, h, rfl⟩
    rfl) fun f cdv A outer s0 H0 E hr => by
    rintro ds res ⟨g, rfl, h, rfl⟩
    have nd : (["rooms", "scrolls"] : List Str).Nodup := by decide +kernel
    refine sd_expr (pd_call (F_need_rooms Z) (hr.mono (by decide)) (pds_cons ((pd_var 0)) pds_nil) ⟨_, _, rfl, ⟨h, by decide⟩, rfl⟩) ?_
    exact sd_ret (pd_tup (pds_cons ((pd_call (F_between Z) (hr.mono (by decide)) (pds_cons (pd_ix (pd_var 1) pd_int (.inr rfl) (atI0 _ _)) (pds_cons (pd_int) (pds_cons (pd_ix (pd_var 0) pd_int (.inr rfl) (atI0 _ _)) pds_nil))) ⟨g, rfl, h, rfl⟩)) (pds_cons ((pd_call (F_between Z) (hr.mono (by decide)) (pds_cons (pd_ix (pd_var 1) pd_int (.inr rfl) (atI1 _ _ _)) (pds_cons (pd_int) (pds_cons (pd_ix (pd_var 0) pd_int (.inr rfl) (atI1 _ _ _)) pds_nil))) ⟨0, rfl, by decide, rfl⟩)) pds_nil))) rfl
theorem F_first_double (Z : Fx TB w K mg base Za) : FnR TB P w K mg base "first_double" ["values"] 1 (fun ds res => ds = [.lst []] ∧ (True) ∧ res = .non) :=
  FnR.mk' (N := ["values", "known", "value"]) Z.first_double ⟨rfl, rfl, rfl, by decide +kernel, rfl, by decide +kernel, by decide +kernel⟩ (by
    rintro ds res ⟨rfl, h, rfl⟩
    rfl) fun f cdv A outer s0 H0 E hr => by
    rintro ds res ⟨rfl, h, rfl⟩
    have nd : (["values", "known", "value"] : List Str).Nodup := by decide +kernel
    refine sd_ownD 1 ?_ nd
    refine sd_forS ([] : List Int) D.int (fun _ => [.d (.lst []), .o (.k [] []), .no]) (pid_list (pd_var 0)) rfl (fun pre x post e => by cases pre <;> cases e) (sd_ret pd_non rfl)
theorem F_shown_in (Z : Fx TB w K mg base Za) : FnR TB P w K mg base "shown_in" ["table", "sorting", "filters"] 6 (fun ds res => ∃ (wd : Nat) (rows : List (List Int)) (s : List Key), ds = [eTable Za wd rows, eKs s, eOpen wd] ∧ (Tb wd rows ∧ Srt wd s) ∧ res = eIs (orderIn rows s)) :=
  FnR.mk' (N := ["table", "sorting", "filters", "let", "row"]) Z.shown_in ⟨rfl, rfl, rfl, by decide +kernel, rfl, by decide +kernel, by decide +kernel⟩ (by
    rintro ds res ⟨wd, rows, s, rfl, h, rfl⟩
    rfl) fun f cdv A outer s0 H0 E hr => by
    rintro ds res ⟨wd, rows, s, rfl, h, rfl⟩
    have nd : (["table", "sorting", "filters", "let", "row"] : List Str).Nodup := by decide +kernel
    have hf := h.1.few
    refine sd_set 3 ((pd_call (F_let_rows Z) (hr.mono (by decide)) (pds_cons ((pd_var 0)) (pds_cons ((pd_var 2)) pds_nil)) ⟨wd, rows, rfl, by omega, rfl⟩)) ?_ nd
    refine sd_ret (d := eIs (orderIn rows s)) (PD.cast (pd_lcM [("row", 4)] (orderIn rows s) (D.int) ((fun r => decide (r ∈ rg rows.length))) (D.int) (pid_list (pd_call (F_order_of Z) (hr.mono (by decide)) (pds_cons ((pd_var 0)) (pds_cons ((pd_var 1)) pds_nil)) ⟨wd, rows, s, rfl, h, rfl⟩)) ((by rw [orderIn_length]; omega)) (fun r hr' => ⟨_, _, by decide, (fun _ _ _ _ _ => (pgd_name 4 nd)), fun _ _ _ _ _ => ptsd_one (pt_c (pcd_inI (pd_var 4) (pd_var 3))), fun hb _ _ _ _ _ => ((pd_var 4))⟩) nd (blkOk_by (show blkC ["table", "sorting", "filters", "let", "row"] (defScope (topS 93)) _ [("row", 4)] = true from by decide +kernel))) ?_) rfl
    rw [List.filter_eq_self.mpr fun r hr => decide_eq_true ((orderIn_perm rows s).subset hr)]
theorem F_lines_in (Z : Fx TB w K mg base Za) : FnR TB P w K mg base "lines_in" ["groups", "folded"] 1 (fun ds res => ∃ (gs : List Grp), ds = [.lst (gs.map eG), .lst []] ∧ (gs.length ≤ 1000 ∧ (linesIn gs).length ≤ 10000) ∧ res = .lst ((linesIn gs).map eLn)) :=
  FnR.mk' (N := ["groups", "folded", "found", "value", "rows", "row"]) Z.lines_in ⟨rfl, rfl, rfl, by decide +kernel, rfl, by decide +kernel, by decide +kernel⟩ (by
    rintro ds res ⟨gs, rfl, h, rfl⟩
    rfl) fun f cdv A outer s0 H0 E hr => by
    rintro ds res ⟨gs, rfl, h, rfl⟩
    have nd : (["groups", "folded", "found", "value", "rows", "row"] : List Str).Nodup := by decide +kernel
    obtain ⟨h1, h2⟩ := h
    refine sd_own 2 ?_ nd
    refine sd_forS gs eG (fun pre => [.d (.lst (gs.map eG)), .d (.lst []), .o (.l ((linesIn pre).map eLn)), .no, .no, .no]) (pid_list (pd_var 0)) rfl (fun pre a post e => ⟨_, _, (pgd_tup (pgsd_cons (pgd_name 3 nd) (pgsd_cons (pgd_name 4 nd) pgsd_nil))), ?_⟩) ?_
    · have hl : (linesIn pre).length + (1 + a.2.length) ≤ 10000 := by
        have e2 : linesIn gs = linesIn pre ++ (linesIn [a] ++ linesIn post) := by
          rw [e]
          simp [linesIn]
        have e3 := congrArg List.length e2
        rw [List.length_append, List.length_append] at e3
        have e4 : (linesIn [a]).length = 1 + a.2.length := by simp [linesIn]; omega
        omega
      refine sd_app 2 rfl (d := eLn (.head a.1 (a.2.length : Nat))) (pd_tup (pds_cons (pd_str) (pds_cons ((pd_var 3)) (pds_cons ((pd_len Z.bl.len (pd_var 4) (.inl rfl)).cast (by rw [List.length_map])) pds_nil)))) (by rw [List.length_map]; omega) ?_
      refine sd_when (t := true) ((pt_c (pcd_ninI (pd_var 3) ((pd_var 1).cast (show D.lst [] = eIs [] from rfl)))).cast (by simp)) (fun _ => ?_) fun z => by cases z
      refine sd_ext 2 rfl (ds := (a.2.map Ln.row).map eLn) (PD.cast (pd_lcA [("row", 5)] (a.2) (D.int) ((fun r => eLn (.row r))) (pid_list (pd_var 4)) ((by omega)) (fun r hr' => ⟨_, _, by decide, (fun _ _ _ _ _ => (pgd_name 5 nd)), fun _ _ _ _ _ => ptsd_nil, fun _ _ _ _ _ _ => (pd_tup (pds_cons (pd_str) (pds_cons ((pd_var 5)) pds_nil)))⟩) nd (blkOk_by (show blkC ["groups", "folded", "found", "value", "rows", "row"] (defScope (topS 95)) _ [("row", 5)] = true from by decide +kernel))) (by rw [List.map_map]; rfl)) (by rw [List.length_append, List.length_map, List.length_map, List.length_map, List.length_singleton]; omega) (sd_nil (sd_nil ?_))
      show Weak _ _
      have e5 : linesIn (pre ++ [a]) = linesIn pre ++ (Ln.head a.1 (a.2.length : Nat) :: a.2.map Ln.row) := by simp [linesIn]
      rw [e5]
      exact (by repeat (first | exact Weak.nil | (refine Weak.cons (by first | exact WkS.refl | exact WkS.drop | exact WkS.fz | exact WkS.of_eq (by simp )) ?_)))
    · refine sd_weak (Weak.fzAt 2 rfl) ?_
      exact sd_ret (pd_var 2) rfl
theorem F_View_init (Z : Fx TB w K mg base Za) : MkR TB P w K mg base Za.View "View" ["self", "table", "sorting", "filters", "folds"] 7 (fun ds ns rs => ∃ (wd : Nat) (rows : List (List Int)) (s : List Key), ds = [eTable Za wd rows, eKs s, eOpen wd, eFolds wd] ∧ (Tb wd rows ∧ Srt wd s) ∧ ns = (viewNs : List Str) ∧ rs = viewVs Za wd rows s) :=
  MkR.mk' (N := ["self", "table", "sorting", "filters", "folds", "values", "double", "shown", "row"]) Z.View_init ⟨rfl, rfl, rfl, by decide +kernel, rfl, by decide +kernel, by decide +kernel⟩ (by
    rintro ds ns rs ⟨wd, rows, s, rfl, h, rfl, rfl⟩
    rfl) fun x0 f cdv A outer s0 H0 E hr => by
    rintro ds ns rs ⟨wd, rows, s, rfl, h, rfl, rfl⟩
    have nd : (["self", "table", "sorting", "filters", "folds", "values", "double", "shown", "row"] : List Str).Nodup := by decide +kernel
    have hf := h.1.few
    have hw := h.1.wide
    have hul := hr.units
    have hol : (orderIn rows s).length ≤ 5 := by rw [orderIn_length]; exact hf
    refine sd_check ((pt_not' (pt_v (pd_call (F_is_sorting Z) (hr.mono (by decide)) (pds_cons ((pd_prop (F_Table_width Z) (hr.mono (by decide)) ((pd_var 1)) ⟨_, _, rfl, True.intro, rfl⟩)) (pds_cons ((pd_var 2)) pds_nil)) ⟨wd, s, rfl, ⟨h.1.pos, h.2⟩, rfl⟩))).cast rfl) ?_
    refine sd_check ((pt_c (pcd_neI (pd_len Z.bl.len (pd_var 3) (.inl rfl)) (pd_prop (F_Table_width Z) (hr.mono (by decide)) ((pd_var 1)) ⟨_, _, rfl, True.intro, rfl⟩))).cast (by simp)) ?_
    refine sd_check ((pt_c (pcd_neI (pd_len Z.bl.len (pd_var 4) (.inl rfl)) (pd_prop (F_Table_width Z) (hr.mono (by decide)) ((pd_var 1)) ⟨_, _, rfl, True.intro, rfl⟩))).cast (by simp)) ?_
    refine sd_forS (List.replicate wd ()) (fun _ => D.lst []) (fun _ => [.o (.i x0 Za.View [] []), .d (eTable Za wd rows), .d (eKs s), .d (eOpen wd), .d (eFolds wd), .no, .no, .no, .no]) (by rw [List.map_replicate]; exact pid_list (pd_var 4)) rfl (fun pre a post e => ⟨_, _, (pgd_name 5 nd), ?_⟩) ?_
    · refine sd_set 6 ((pd_call (F_first_double Z) (hr.mono (by decide)) (pds_cons ((pd_var 5)) pds_nil) ⟨rfl, True.intro, rfl⟩)) ?_ nd
      exact sd_check ((pt_c (pcd_notN (pd_var 6))).cast rfl) (sd_nil (by repeat (first | exact Weak.nil | (refine Weak.cons (by first | exact WkS.refl | exact WkS.drop | exact WkS.fz | exact WkS.of_eq (by simp )) ?_))))
    · refine sd_fld 0 rfl ((pd_var 1)) Z.cls_View Z.no_View_held_table (by decide) (by decide) ?_
      refine sd_fld 0 rfl (pd_list Z.bl.list (pd_var 2) (.inl rfl)) Z.cls_View Z.no_View_held_sorting (by decide) (by decide) ?_
      refine sd_fld 0 rfl (pd_list Z.bl.list (pd_var 3) (.inl rfl)) Z.cls_View Z.no_View_held_filters (by decide) (by decide) ?_
      refine sd_fld 0 rfl (PD.cast (pd_lcA [("values", 5)] (List.replicate wd ()) ((fun _ => D.lst [])) ((fun _ => D.lst [])) ((by rw [List.map_replicate]; exact pid_list (pd_var 4))) ((by simp; omega)) (fun u hu' => ⟨_, _, by decide, (fun _ _ _ _ _ => (pgd_name 5 nd)), fun _ _ _ _ _ => ptsd_nil, fun _ _ _ _ _ _ => ((pd_sortedI (ns := []) (ns' := []) Z.bl.sorted (pd_var 5) (List.Perm.refl _) List.Pairwise.nil))⟩) nd (blkOk_by (show blkC ["self", "table", "sorting", "filters", "folds", "values", "double", "shown", "row"] (defScope (inClass (topS 96) 0)) _ [("values", 5)] = true from by decide +kernel))) (by rw [List.map_replicate])) Z.cls_View Z.no_View_held_folds (by decide) (by decide) ?_
      refine sd_set 7 ((pd_call (F_shown_in Z) (hr.mono (by decide)) (pds_cons ((pd_var 1)) (pds_cons ((pd_var 2)) (pds_cons ((pd_var 3)) pds_nil))) ⟨wd, rows, s, rfl, h, rfl⟩)) ?_ nd
      refine sd_fld 0 rfl ((pd_call (F_groups_in Z) (hr.mono (by decide)) (pds_cons ((pd_var 1)) (pds_cons ((pd_var 2)) (pds_cons ((pd_var 7)) pds_nil))) ⟨wd, rows, s, orderIn rows s, rfl, ⟨h, order_mem, by omega⟩, rfl⟩)) Z.cls_View Z.no_View_held_groups (by decide) (by decide) ?_
      refine sd_fld 0 rfl ((pd_var 7)) Z.cls_View Z.no_View_held_shown (by decide) (by decide) ?_
      cases s with
      | nil =>
        refine sd_if (pt_c (pcd_eqE pn_eKs hul (x := ([] : List Key)) (y := []) (pd_var 2) (pd_lst pds_nil))) (fun _ => ?_) fun z => by simp at z
        refine sd_fld 0 rfl (PD.cast (y := .lst ((viewLines rows []).map eLn)) (pd_lcA [("row", 8)] (orderIn rows []) (D.int) ((fun r => eLn (.row r))) (pid_list (pd_var 7)) ((by omega)) (fun r hr' => ⟨_, _, by decide, (fun _ _ _ _ _ => (pgd_name 8 nd)), fun _ _ _ _ _ => ptsd_nil, fun _ _ _ _ _ _ => (pd_tup (pds_cons (pd_str) (pds_cons ((pd_var 8)) pds_nil)))⟩) nd (blkOk_by (show blkC ["self", "table", "sorting", "filters", "folds", "values", "double", "shown", "row"] (defScope (inClass (topS 96) 0)) _ [("row", 8)] = true from by decide +kernel))) (by rw [show viewLines rows [] = (orderIn rows []).map Ln.row from rfl, List.map_map]; rfl)) Z.cls_View Z.no_View_held_lines (by decide) (by decide) ?_
        exact sd_nil (sd_nil rfl)
      | cons key t =>
        have k0 := (h.2.keyed.2 key List.mem_cons_self).1
        have k1 := h.2.inw key List.mem_cons_self
        have hgl := groupsOf_length rows key.1 (orderIn rows (key :: t))
        have hvl := viewLines_length rows (key :: t)
        refine sd_if (pt_c (pcd_eqE pn_eKs hul (x := key :: t) (y := []) (pd_var 2) (pd_lst pds_nil))) (fun z => by simp at z) fun _ => ?_
        refine sd_fld 0 rfl ((pd_call (F_lines_in Z) (hr.mono (by decide)) (pds_cons ((pd_fldo 0 4 rfl Z.cls_View Z.no_View_held_groups (by decide) rfl rfl)) (pds_cons (pd_ix (d := .lst []) (pd_var 4) (pd_ix (pd_ix (d := eK key) (pd_var 2) pd_int (.inl rfl) (atI0 _ _)) pd_int (.inr rfl) (atI0 _ _)) (.inl rfl) (atI_int k0 (by rw [List.getElem?_replicate, if_pos (by omega)]))) pds_nil)) ⟨groupsIn rows (key :: t) (orderIn rows (key :: t)), rfl, ⟨Nat.le_trans hgl (by omega), Nat.le_trans hvl (by omega)⟩, rfl⟩)) Z.cls_View Z.no_View_held_lines (by decide) (by decide) ?_
        exact sd_nil (sd_nil rfl)
theorem F_View_table (Z : Fx TB w K mg base Za) : PrR TB P w K mg base Za.View "table" 1 (fun ds res => ∃ (wd : Nat) (rows : List (List Int)) (s : List Key), ds = [eView Za wd rows s] ∧ (True) ∧ res = eTable Za wd rows) :=
  PrR.mk' (N := ["self"]) Z.View_table ⟨rfl, rfl, rfl, by decide +kernel, rfl, by decide +kernel, by decide +kernel⟩ (by
    rintro ds res ⟨wd, rows, s, rfl, h, rfl⟩
    rfl) fun f cdv A outer s0 H0 E hr => by
    rintro ds res ⟨wd, rows, s, rfl, h, rfl⟩
    have nd : (["self"] : List Str).Nodup := by decide +kernel
    exact sd_ret (pd_fld 0 Z.cls_View Z.no_View_held_table ((pd_var 0)) (by decide) rfl rfl) rfl
theorem F_View_sorting (Z : Fx TB w K mg base Za) : PrR TB P w K mg base Za.View "sorting" 1 (fun ds res => ∃ (wd : Nat) (rows : List (List Int)) (s : List Key), ds = [eView Za wd rows s] ∧ (True) ∧ res = eKs s) :=
  PrR.mk' (N := ["self"]) Z.View_sorting ⟨rfl, rfl, rfl, by decide +kernel, rfl, by decide +kernel, by decide +kernel⟩ (by
    rintro ds res ⟨wd, rows, s, rfl, h, rfl⟩
    rfl) fun f cdv A outer s0 H0 E hr => by
    rintro ds res ⟨wd, rows, s, rfl, h, rfl⟩
    have nd : (["self"] : List Str).Nodup := by decide +kernel
    exact sd_ret (pd_list Z.bl.list (pd_fld 1 Z.cls_View Z.no_View_held_sorting ((pd_var 0)) (by decide) rfl rfl) (.inl rfl)) rfl
theorem F_View_filters (Z : Fx TB w K mg base Za) : PrR TB P w K mg base Za.View "filters" 1 (fun ds res => ∃ (wd : Nat) (rows : List (List Int)) (s : List Key), ds = [eView Za wd rows s] ∧ (True) ∧ res = eOpen wd) :=
  PrR.mk' (N := ["self"]) Z.View_filters ⟨rfl, rfl, rfl, by decide +kernel, rfl, by decide +kernel, by decide +kernel⟩ (by
    rintro ds res ⟨wd, rows, s, rfl, h, rfl⟩
    rfl) fun f cdv A outer s0 H0 E hr => by
    rintro ds res ⟨wd, rows, s, rfl, h, rfl⟩
    have nd : (["self"] : List Str).Nodup := by decide +kernel
    exact sd_ret (pd_list Z.bl.list (pd_fld 2 Z.cls_View Z.no_View_held_filters ((pd_var 0)) (by decide) rfl rfl) (.inl rfl)) rfl
theorem F_View_folds (Z : Fx TB w K mg base Za) : PrR TB P w K mg base Za.View "folds" 1 (fun ds res => ∃ (wd : Nat) (rows : List (List Int)) (s : List Key), ds = [eView Za wd rows s] ∧ (wd ≤ 100) ∧ res = eFolds wd) :=
  PrR.mk' (N := ["self", "values"]) Z.View_folds ⟨rfl, rfl, rfl, by decide +kernel, rfl, by decide +kernel, by decide +kernel⟩ (by
    rintro ds res ⟨wd, rows, s, rfl, h, rfl⟩
    rfl) fun f cdv A outer s0 H0 E hr => by
    rintro ds res ⟨wd, rows, s, rfl, h, rfl⟩
    have nd : (["self", "values"] : List Str).Nodup := by decide +kernel
    exact sd_ret (PD.cast (pd_lcA [("values", 1)] (List.replicate wd ()) ((fun _ => D.lst [])) ((fun _ => D.lst [])) ((by rw [List.map_replicate]; exact pid_list (pd_fld 3 Z.cls_View Z.no_View_held_folds ((pd_var 0)) (by decide) rfl rfl))) ((by simp; omega)) (fun u hu' => ⟨_, _, by decide, (fun _ _ _ _ _ => (pgd_name 1 nd)), fun _ _ _ _ _ => ptsd_nil, fun _ _ _ _ _ _ => (pd_list Z.bl.list (pd_var 1) (.inl rfl))⟩) nd (blkOk_by (show blkC ["self", "values"] (defScope (inClass (topS 96) 4)) _ [("values", 1)] = true from by decide +kernel))) (by rw [List.map_replicate])) rfl
theorem F_View_shown (Z : Fx TB w K mg base Za) : MeR TB P w K mg base Za.View "shown" ["self"] 1 (fun ds res => ∃ (wd : Nat) (rows : List (List Int)) (s : List Key), ds = [eView Za wd rows s] ∧ (True) ∧ res = eIs (orderIn rows s)) :=
  MeR.mk' (N := ["self"]) Z.View_shown ⟨rfl, rfl, rfl, by decide +kernel, rfl, by decide +kernel, by decide +kernel⟩ (by
    rintro ds res ⟨wd, rows, s, rfl, h, rfl⟩
    rfl) fun f cdv A outer s0 H0 E hr => by
    rintro ds res ⟨wd, rows, s, rfl, h, rfl⟩
    have nd : (["self"] : List Str).Nodup := by decide +kernel
    exact sd_ret (pd_list Z.bl.list (pd_fld 5 Z.cls_View Z.no_View_held_shown ((pd_var 0)) (by decide) rfl rfl) (.inl rfl)) rfl
theorem F_View_open_rows (Z : Fx TB w K mg base Za) : MeR TB P w K mg base Za.View "open_rows" ["self"] 1 (fun ds res => ∃ (wd : Nat) (rows : List (List Int)) (s : List Key), ds = [eView Za wd rows s] ∧ (rows.length ≤ 1000) ∧ res = eIs (orderIn rows s)) :=
  MeR.mk' (N := ["self", "line"]) Z.View_open_rows ⟨rfl, rfl, rfl, by decide +kernel, rfl, by decide +kernel, by decide +kernel⟩ (by
    rintro ds res ⟨wd, rows, s, rfl, h, rfl⟩
    rfl) fun f cdv A outer s0 H0 E hr => by
    rintro ds res ⟨wd, rows, s, rfl, h, rfl⟩
    have nd : (["self", "line"] : List Str).Nodup := by decide +kernel
    have hvl := viewLines_length rows s
    refine sd_ret (d := eIs (orderIn rows s)) (PD.cast (pd_lcM [("line", 1)] (viewLines rows s) (eLn) ((fun l => (lnRow l).isSome)) ((fun l => .int ((lnRow l).getD 0))) (pid_list (pd_fld 6 Z.cls_View Z.no_View_held_lines ((pd_var 0)) (by decide) rfl rfl)) ((by omega)) (fun l hl' => ⟨_, _, by decide, (fun _ _ _ _ _ => (pgd_name 1 nd)), fun _ _ _ _ _ => ptsd_one ((match l with | .head v n => (pt_c (pcd_eqS (pd_ix (d := .str "head") ((pd_var 1).cast (show eLn (.head v n) = .tup [.str "head", .int v, .int n] from rfl)) pd_int (.inr rfl) (atI0 _ _)) pd_str)).cast (show decide (Str.ofString "head" = Str.ofString "row") = false by decide +kernel) | .row r => (pt_c (pcd_eqS (pd_ix (d := .str "row") ((pd_var 1).cast (show eLn (.row r) = .tup [.str "row", .int r] from rfl)) pd_int (.inr rfl) (atI0 _ _)) pd_str)).cast (by simp [lnRow]))), fun hb _ _ _ _ _ => ((match l, hb with | .row r, _ => pd_ix ((pd_var 1).cast (show eLn (.row r) = .tup [.str "row", .int r] from rfl)) pd_int (.inr rfl) (atI1 _ _ _)))⟩) nd (blkOk_by (show blkC ["self", "line"] (defScope (inClass (topS 96) 7)) _ [("line", 1)] = true from by decide +kernel))) ?_) rfl
    have gen : ∀ ls : List Ln, (ls.filter fun l => (lnRow l).isSome).map (fun l => D.int ((lnRow l).getD 0)) = (ls.filterMap lnRow).map D.int := by
      intro ls
      induction ls with
      | nil => rfl
      | cons l ls ih => cases l with
        | head v n =>
          rw [List.filter_cons_of_neg (by simp [lnRow]), List.filterMap_cons]
          exact ih
        | row r =>
          rw [List.filter_cons_of_pos (by simp [lnRow]), List.filterMap_cons, List.map_cons, ih]
          rfl
    rw [gen, viewLines_rows]
theorem F_View_len (Z : Fx TB w K mg base Za) : SpecR TB P w K mg base Za.View "__len__" ["self"] 1 (fun ds res => ∃ (wd : Nat) (rows : List (List Int)) (s : List Key), ds = [eView Za wd rows s] ∧ (True) ∧ res = .int (((viewLines rows s).length : Nat) : Int)) :=
  SpecR.mk' (N := ["self"]) Z.View_len ⟨rfl, rfl, rfl, by decide +kernel, rfl, by decide +kernel, by decide +kernel⟩ (by
    rintro ds res ⟨wd, rows, s, rfl, h, rfl⟩
    rfl) fun f cdv A outer s0 H0 E hr => by
    rintro ds res ⟨wd, rows, s, rfl, h, rfl⟩
    have nd : (["self"] : List Str).Nodup := by decide +kernel
    exact sd_ret ((pd_len Z.bl.len (pd_fld 6 Z.cls_View Z.no_View_held_lines ((pd_var 0)) (by decide) rfl rfl) (.inl rfl)).cast (by rw [List.length_map])) rfl
end
end Lw
set_option Elab.async false
set_option linter.all false
set_option maxRecDepth 100000
set_option maxHeartbeats 4000000
/-! # a view after a deed, houses -/
namespace Lw
open PySem PySem.Spec PyProof.Rows L2
theorem Srt.click {wd : Nat} {s : List Key} {c : Int} (h : Srt wd s) (hl : s.length < 50) (h0 : 0 ≤ c) (h1 : c < wd) : Srt wd (afterClick s c) := by
  refine ⟨?_, Nat.le_trans (afterClick_length s c) hl, ?_⟩
  · cases s with
    | nil =>
      refine ⟨by simp [afterClick], fun k hk => ?_⟩
      rw [List.mem_singleton.mp hk]
      exact ⟨h0, .inl rfl⟩
    | cons k t =>
      have e : afterClick (k :: t) c = if k.1 = c then (c, -k.2) :: t else (c, 1) :: (k :: t).filter fun q => !decide (q.1 = c) := rfl
      rw [e]
      have hk := h.keyed
      split
      · rename_i ec
        refine ⟨?_, fun q hq => ?_⟩
        · have := hk.1
          rw [List.map_cons] at this ⊢
          rw [ec] at this
          exact this
        · rcases List.mem_cons.mp hq with rfl | hq
          · have := (hk.2 k List.mem_cons_self).2
            refine ⟨h0, ?_⟩
            show -k.2 = 1 ∨ -k.2 = -1
            omega
          · exact hk.2 q (List.mem_cons_of_mem _ hq)
      · refine ⟨?_, fun q hq => ?_⟩
        · rw [List.map_cons, List.nodup_cons]
          refine ⟨fun hm => ?_, ?_⟩
          · obtain ⟨q, hq, e⟩ := List.mem_map.mp hm
            have := (List.mem_filter.mp hq).2
            have e : q.1 = c := e
            simp [e] at this
          · exact hk.1.sublist (List.Sublist.map _ List.filter_sublist)
        · rcases List.mem_cons.mp hq with rfl | hq
          · exact ⟨h0, .inl rfl⟩
          · exact hk.2 q (List.mem_filter.mp hq).1
  · intro q hq
    cases s with
    | nil =>
      rw [List.mem_singleton.mp hq]
      exact h1
    | cons k t =>
      have e : afterClick (k :: t) c = if k.1 = c then (c, -k.2) :: t else (c, 1) :: (k :: t).filter fun q => !decide (q.1 = c) := rfl
      rw [e] at hq
      split at hq
      · rcases List.mem_cons.mp hq with rfl | hq
        · exact h1
        · exact h.inw q (List.mem_cons_of_mem _ hq)
      · rcases List.mem_cons.mp hq with rfl | hq
        · exact h1
        · exact h.inw q (List.mem_filter.mp hq).1
abbrev eAll (Z : Ads) (wd : Nat) (rows : List (List Int)) : D := .tup [.str "all", eTable Z wd rows]
abbrev eHouse (Z : Ads) (wd : Nat) (rows : List (List Int)) : D := .ins Z.House ["own_places"] [.tup [eAll Z wd rows]]
section
variable {TB : Tbs} {P : Program} {w : World} {K : PySem.W.Frag} {mg : Str → Option Value} {base : Heap} {Za : Ads}
theorem F_View_done (Z : Fx TB w K mg base Za) : MeR TB P w K mg base Za.View "done" ["self", "deeds"] 9 (fun ds res => ∃ (wd : Nat) (rows : List (List Int)) (s : List Key) (c : Int), ds = [eView Za wd rows s, .lst [eC ("sort", c)]] ∧ ((Tb wd rows ∧ Srt wd s ∧ s.length < 50) ∧ 0 ≤ c ∧ c < wd) ∧ res = eView Za wd rows (afterClick s c)) :=
  MeR.mk' (N := ["self", "deeds", "width", "deed", "sorting", "filters", "folds", "column", "values"]) Z.View_done ⟨rfl, rfl, rfl, by decide +kernel, rfl, by decide +kernel, by decide +kernel⟩ (by
    rintro ds res ⟨wd, rows, s, c, rfl, h, rfl⟩
    rfl) fun f cdv A outer s0 H0 E hr => by
    rintro ds res ⟨wd, rows, s, c, rfl, h, rfl⟩
    have nd : (["self", "deeds", "width", "deed", "sorting", "filters", "folds", "column", "values"] : List Str).Nodup := by decide +kernel
    obtain ⟨⟨ht, hs, hl⟩, h0, h1⟩ := h
    have hpos := ht.pos
    have hwd := ht.wide
    refine sd_set 2 ((pd_prop (F_Table_width Z) (hr.mono (by decide)) ((pd_fld 0 Z.cls_View Z.no_View_held_table ((pd_var 0)) (by decide) rfl rfl)) ⟨_, _, rfl, True.intro, rfl⟩)) ?_ nd
    refine sd_forS [c] (fun c : Int => eC ("sort", c)) (fun _ => [.d (eView Za wd rows s), .d (.lst [eC ("sort", c)]), .d (.int wd), .no, .no, .no, .no, .no, .no]) (pid_list (pd_var 1)) rfl (fun pre a post e => ⟨_, _, (pgd_name 3 nd), ?_⟩) ?_
    · have ha : a = c := by
        have : a ∈ [c] := by rw [e]; simp
        exact List.mem_singleton.mp this
      subst ha
      refine sd_check ((pw_t (pwd_and (pt_c (pcd_in (t := true) (pd_ix (d := .str "sort") (pd_var 3) pd_int (.inr rfl) (atI0 _ _)) (pd_tup (pds_cons (pd_str) (pds_cons (pd_str) pds_nil))) (.inr rfl) (by decide +kernel) (by decide +kernel) (by simp))) (fun _ => pwd_and1 (pt_not' (pt_chain' op_le op_lt pd_int (pd_ix (pd_var 3) pd_int (.inr rfl) (atI1 _ _ _)) (pd_var 2)))))).cast ?_) (sd_nil (by repeat (first | exact Weak.nil | (refine Weak.cons (by first | exact WkS.refl | exact WkS.drop | exact WkS.fz | exact WkS.of_eq (by simp )) ?_))))
      simp [h0, h1]
    · refine sd_par3 4 5 6 (pd_prop (F_View_sorting Z) (hr.mono (by decide)) ((pd_var 0)) ⟨_, _, _, rfl, True.intro, rfl⟩) (pd_prop (F_View_filters Z) (hr.mono (by decide)) ((pd_var 0)) ⟨_, _, _, rfl, True.intro, rfl⟩) (pd_prop (F_View_folds Z) (hr.mono (by decide)) ((pd_var 0)) ⟨_, _, _, rfl, by omega, rfl⟩) ?_ nd
      refine sd_forS [c] (fun c : Int => eC ("sort", c)) (fun pre => [.d (eView Za wd rows s), .d (.lst [eC ("sort", c)]), .d (.int wd), .no, .d (eKs (afterClicks s pre)), .d (eOpen wd), .d (eFolds wd), .no, .no]) (pid_list (pd_var 1)) rfl (fun pre a post e => ⟨_, _, (pgd_name 3 nd), ?_⟩) ?_
      · have hpre : pre = [] := by
          cases pre with
          | nil => rfl
          | cons x l =>
            have := congrArg List.length e
            simp at this
        subst hpre
        have ha : a = c := (List.cons.inj e).1.symm
        subst ha
        refine sd_if (t := true) ((pt_c (pcd_eqS (pd_ix (d := .str "sort") (pd_var 3) pd_int (.inr rfl) (atI0 _ _)) pd_str)).cast (by decide)) (fun _ => ?_) fun z => by cases z
        refine sd_set 4 ((pd_call (F_clicked Z) (hr.mono (by decide)) (pds_cons ((pd_var 2)) (pds_cons ((pd_var 4)) (pds_cons (pd_lst (pds_cons (pd_ix (pd_var 3) pd_int (.inr rfl) (atI1 _ _ _)) pds_nil)) pds_nil))) ⟨wd, s, [a], rfl, ⟨⟨hpos, hs⟩, by simp, fun x hx => by rw [List.mem_singleton.mp hx]; exact ⟨h0, h1⟩⟩, rfl⟩)) ?_ nd
        exact sd_nil (sd_nil (by repeat (first | exact Weak.nil | (refine Weak.cons (by first | exact WkS.refl | exact WkS.drop | exact WkS.fz | exact WkS.of_eq (by simp )) ?_))))
      · exact sd_ret (pd_make (F_View_init Z) (hr.mono (by decide)) (pds_cons ((pd_fld 0 Z.cls_View Z.no_View_held_table ((pd_var 0)) (by decide) rfl rfl)) (pds_cons ((pd_var 4)) (pds_cons ((pd_var 5)) (pds_cons ((pd_var 6)) pds_nil)))) ⟨wd, rows, afterClick s c, rfl, ⟨ht, hs.click hl h0 h1⟩, rfl, rfl⟩) rfl
theorem F_is_name (Z : Fx TB w K mg base Za) : FnR TB P w K mg base "is_name" ["text"] 1 (fun ds res => ds = [.str "all"] ∧ (True) ∧ res = .bl true) :=
  FnR.mk' (N := ["text", "sign"]) Z.is_name ⟨rfl, rfl, rfl, by decide +kernel, rfl, by decide +kernel, by decide +kernel⟩ (by
    rintro ds res ⟨rfl, h, rfl⟩
    rfl) fun f cdv A outer s0 H0 E hr => by
    rintro ds res ⟨rfl, h, rfl⟩
    have nd : (["text", "sign"] : List Str).Nodup := by decide +kernel
    exact sd_ret ((pd_and (pd_chain op_le op_le pd_int (pd_lenS Z.bl.len (pd_var 0) (by decide)) (pd_gI Z.MOST_LETTERS)) (fun _ => pd_one (pd_all (bs := [97, 108, 108].map fun c : Nat => decide (c ∈ (Str.ofString "abcdefghijklmnopqrstuvwxyz").cps.toList)) Z.bl.all (PD.cast (pd_lcA [("sign", 1)] ([97, 108, 108]) ((fun c : Nat => D.str ⟨#[c]⟩)) ((fun c : Nat => D.bl (decide (c ∈ (Str.ofString "abcdefghijklmnopqrstuvwxyz").cps.toList)))) ((pid_str (s := "all") (pd_var 0))) ((by decide)) (fun c hc => ⟨_, _, by decide, (fun _ _ _ _ _ => (pgd_name 1 nd)), fun _ _ _ _ _ => ptsd_nil, fun _ _ _ _ _ _ => (pd_c (pcd_inSign (pd_var 1) (pd_gS Z.LETTERS)))⟩) nd (blkOk_by (show blkC ["text", "sign"] (defScope (topS 100)) _ [("sign", 1)] = true from by decide +kernel))) (by rw [List.map_map]; rfl))))).cast (by congr 1)) rfl
theorem F_require_names (Z : Fx TB w K mg base Za) : FnR TB P w K mg base "require_names" ["names"] 2 (fun ds res => ds = [.lst [.str "all"]] ∧ (True) ∧ res = .non) :=
  FnR.mk' (N := ["names", "name"]) Z.require_names ⟨rfl, rfl, rfl, by decide +kernel, rfl, by decide +kernel, by decide +kernel⟩ (by
    rintro ds res ⟨rfl, h, rfl⟩
    rfl) fun f cdv A outer s0 H0 E hr => by
    rintro ds res ⟨rfl, h, rfl⟩
    have nd : (["names", "name"] : List Str).Nodup := by decide +kernel
    refine sd_forS [()] (fun _ => D.str "all") (fun _ => [.d (.lst [.str "all"]), .no]) (pid_list (pd_var 0)) rfl (fun pre a post e => ⟨_, _, (pgd_name 1 nd), ?_⟩) (sd_nil rfl)
    exact sd_check ((pt_not' (pt_v (pd_call (F_is_name Z) (hr.mono (by decide)) (pds_cons ((pd_var 1)) pds_nil) ⟨rfl, True.intro, rfl⟩))).cast rfl) (sd_nil (by repeat (first | exact Weak.nil | (refine Weak.cons (by first | exact WkS.refl | exact WkS.drop | exact WkS.fz | exact WkS.of_eq (by simp )) ?_))))
theorem F_require_unlike (Z : Fx TB w K mg base Za) : FnR TB P w K mg base "require_unlike" ["names"] 2 (fun ds res => ds = [.lst [.str "all"]] ∧ (True) ∧ res = .non) :=
  FnR.mk' (N := ["names", "index", "name"]) Z.require_unlike ⟨rfl, rfl, rfl, by decide +kernel, rfl, by decide +kernel, by decide +kernel⟩ (by
    rintro ds res ⟨rfl, h, rfl⟩
    rfl) fun f cdv A outer s0 H0 E hr => by
    rintro ds res ⟨rfl, h, rfl⟩
    have nd : (["names", "index", "name"] : List Str).Nodup := by decide +kernel
    refine sd_forS [()] (fun _ => D.tup [.int 0, .str "all"]) (fun _ => [.d (.lst [.str "all"]), .no, .no]) (show PId _ _ _ _ _ (enumD [.str "all"]) from pid_enum Z.bl.enumerate (pd_var 0)) rfl (fun pre a post e => ⟨_, _, (pgd_tup (pgsd_cons (pgd_name 1 nd) (pgsd_cons (pgd_name 2 nd) pgsd_nil))), ?_⟩) (sd_nil rfl)
    exact sd_check (pt_c (pcd_in (t := false) (pd_var 2) (pd_slice (l := none) (h := some 0) (pd_var 0) po_no (po_so (pd_var 1))) (.inl rfl) (by decide +kernel) (by decide +kernel) (by rw [show cut [D.str "all"] none (some 0) = [] from cut_to _ 0]; simp))) (sd_nil (by repeat (first | exact Weak.nil | (refine Weak.cons (by first | exact WkS.refl | exact WkS.drop | exact WkS.fz | exact WkS.of_eq (by simp )) ?_))))
theorem F_House_init (Z : Fx TB w K mg base Za) : MkR TB P w K mg base Za.House "House" ["self", "places"] 3 (fun ds ns rs => ∃ (wd : Nat) (rows : List (List Int)), ds = [.lst [eAll Za wd rows]] ∧ (True) ∧ ns = (["own_places"] : List Str) ∧ rs = [.tup [eAll Za wd rows]]) :=
  MkR.mk' (N := ["self", "places", "names", "name", "table"]) Z.House_init ⟨rfl, rfl, rfl, by decide +kernel, rfl, by decide +kernel, by decide +kernel⟩ (by
    rintro ds ns rs ⟨wd, rows, rfl, h, rfl, rfl⟩
    rfl) fun x0 f cdv A outer s0 H0 E hr => by
    rintro ds ns rs ⟨wd, rows, rfl, h, rfl, rfl⟩
    have nd : (["self", "places", "names", "name", "table"] : List Str).Nodup := by decide +kernel
    have hul := hr.units
    refine sd_check (pt_c (pcd_eqLen (Nat.lt_of_le_of_lt (Nat.le_add_right _ 64) hul) (pd_var 1) (pd_lst pds_nil) (by simp))) ?_
    refine sd_setLcA 2 [("name", 3), ("table", 4)] ([()]) ((fun _ => eAll Za wd rows)) ((fun _ => D.str "all")) (pid_list (pd_var 1)) ((by decide)) (fun u hu' => ⟨_, _, by decide, (fun _ _ _ _ _ => (pgd_tup (pgsd_cons (pgd_name 3 nd) (pgsd_cons (pgd_name 4 nd) pgsd_nil)))), fun _ _ _ _ _ => ptsd_nil, fun _ _ _ _ _ _ => ((pd_var 3))⟩) ?_ nd (blkOk_by (show blkC ["self", "places", "names", "name", "table"] (defScope (inClass (topS 103) 0)) _ [("name", 3), ("table", 4)] = true from by decide +kernel))
    refine sd_expr (pd_call (F_require_names Z) (hr.mono (by decide)) (pds_cons ((pd_var 2)) pds_nil) ⟨rfl, True.intro, rfl⟩) ?_
    refine sd_expr (pd_call (F_require_unlike Z) (hr.mono (by decide)) (pds_cons ((pd_var 2)) pds_nil) ⟨rfl, True.intro, rfl⟩) ?_
    refine sd_fld 0 rfl (pd_tuple Z.bl.tuple (pd_var 1)) Z.cls_House Z.no_House_own_places (by decide) (by decide) ?_
    exact sd_nil rfl
theorem F_House_names (Z : Fx TB w K mg base Za) : PrR TB P w K mg base Za.House "names" 1 (fun ds res => ∃ (wd : Nat) (rows : List (List Int)), ds = [eHouse Za wd rows] ∧ (True) ∧ res = .lst [.str "all"]) :=
  PrR.mk' (N := ["self", "name", "table"]) Z.House_names ⟨rfl, rfl, rfl, by decide +kernel, rfl, by decide +kernel, by decide +kernel⟩ (by
    rintro ds res ⟨wd, rows, rfl, h, rfl⟩
    rfl) fun f cdv A outer s0 H0 E hr => by
    rintro ds res ⟨wd, rows, rfl, h, rfl⟩
    have nd : (["self", "name", "table"] : List Str).Nodup := by decide +kernel
    exact sd_ret (pd_lcA [("name", 1), ("table", 2)] ([()]) ((fun _ => eAll Za wd rows)) ((fun _ => D.str "all")) (pid_tup (pd_fld 0 Z.cls_House Z.no_House_own_places ((pd_var 0)) (by decide) rfl rfl)) ((by decide)) (fun u hu' => ⟨_, _, by decide, (fun _ _ _ _ _ => (pgd_tup (pgsd_cons (pgd_name 1 nd) (pgsd_cons (pgd_name 2 nd) pgsd_nil)))), fun _ _ _ _ _ => ptsd_nil, fun _ _ _ _ _ _ => ((pd_var 1))⟩) nd (blkOk_by (show blkC ["self", "name", "table"] (defScope (inClass (topS 103) 1)) _ [("name", 1), ("table", 2)] = true from by decide +kernel))) rfl
theorem F_House_require_place (Z : Fx TB w K mg base Za) : MeR TB P w K mg base Za.House "require_place" ["self", "name"] 3 (fun ds res => ∃ (wd : Nat) (rows : List (List Int)), ds = [eHouse Za wd rows, .str "all"] ∧ (True) ∧ res = .non) :=
  MeR.mk' (N := ["self", "name"]) Z.House_require_place ⟨rfl, rfl, rfl, by decide +kernel, rfl, by decide +kernel, by decide +kernel⟩ (by
    rintro ds res ⟨wd, rows, rfl, h, rfl⟩
    rfl) fun f cdv A outer s0 H0 E hr => by
    rintro ds res ⟨wd, rows, rfl, h, rfl⟩
    have nd : (["self", "name"] : List Str).Nodup := by decide +kernel
    exact sd_check (pt_c (pcd_notIn (t := true) (pd_var 1) (pd_prop (F_House_names Z) (hr.mono (by decide)) ((pd_var 0)) ⟨_, _, rfl, True.intro, rfl⟩) (.inl rfl) (by decide +kernel) (by decide +kernel) (by simp))) (sd_nil rfl)
theorem F_House_getitem (Z : Fx TB w K mg base Za) : SpecR TB P w K mg base Za.House "__getitem__" ["self", "name"] 4 (fun ds res => ∃ (wd : Nat) (rows : List (List Int)), ds = [eHouse Za wd rows, .str "all"] ∧ (True) ∧ res = eTable Za wd rows) :=
  SpecR.mk' (N := ["self", "name", "other", "table"]) Z.House_getitem ⟨rfl, rfl, rfl, by decide +kernel, rfl, by decide +kernel, by decide +kernel⟩ (by
    rintro ds res ⟨wd, rows, rfl, h, rfl⟩
    rfl) fun f cdv A outer s0 H0 E hr => by
    rintro ds res ⟨wd, rows, rfl, h, rfl⟩
    have nd : (["self", "name", "other", "table"] : List Str).Nodup := by decide +kernel
    refine sd_expr (pd_meth (F_House_require_place Z) (hr.mono (by decide)) ((pd_var 0)) (pds_cons ((pd_var 1)) pds_nil) ⟨_, _, rfl, True.intro, rfl⟩ (by decide)) ?_
    exact sd_ret (pd_ix (ds := [eTable Za wd rows]) (PD.cast (pd_lcM [("other", 2), ("table", 3)] ([()]) ((fun _ => eAll Za wd rows)) ((fun _ => true)) ((fun _ => eTable Za wd rows)) (pid_tup (pd_fld 0 Z.cls_House Z.no_House_own_places ((pd_var 0)) (by decide) rfl rfl)) ((by decide)) (fun u hu' => ⟨_, _, by decide, (fun _ _ _ _ _ => (pgd_tup (pgsd_cons (pgd_name 2 nd) (pgsd_cons (pgd_name 3 nd) pgsd_nil)))), fun _ _ _ _ _ => ptsd_one ((pt_c (pcd_eqS (pd_var 2) (pd_var 1))).cast (by simp)), fun hb _ _ _ _ _ => ((pd_var 3))⟩) nd (blkOk_by (show blkC ["self", "name", "other", "table"] (defScope (inClass (topS 103) 3)) _ [("other", 2), ("table", 3)] = true from by decide +kernel))) rfl) pd_int (.inl rfl) (atI0 _ _)) rfl
end
end Lw
set_option Elab.async false
set_option linter.all false
set_option maxRecDepth 100000
set_option maxHeartbeats 4000000
/-! # windows, scripts -/
namespace Lw
open PySem PySem.Spec PyProof.Rows L2
theorem rg_nodup (n : Nat) : (rg n).Nodup := by
  unfold rg
  exact List.Pairwise.map _ (fun a b h e => h (Int.ofNat_inj.mp e)) List.nodup_range
theorem order_nodup (rows : List (List Int)) (s : List Key) : (orderIn rows s).Nodup := (orderIn_perm rows s).nodup_iff.mpr (rg_nodup _)
abbrev SpS := List Key × List Int × Option Int
abbrev spotNs : List Str := ["look", "chosen", "origin", "top"]
abbrev momNs : List Str := ["path", "spots", "page"]
abbrev eSpot (Z : Ads) (wd : Nat) (rows : List (List Int)) (q : SpS) : D := .ins Z.Spot spotNs [eView Z wd rows q.1, eIs q.2.1, eO D.int q.2.2, .int 0]
abbrev eSpots (Z : Ads) (wd : Nat) (rows : List (List Int)) (q : SpS) : D := .dic [Sum.inr "all"] [eSpot Z wd rows q]
abbrev eMom (Z : Ads) (wd : Nat) (rows : List (List Int)) (q : SpS) : D := .ins Z.Moment momNs [.lst [.str "all"], eSpots Z wd rows q, .int 0]
def stepS (rows : List (List Int)) (q : SpS) (c : Str × Int) : SpS := if c.1 = "sort" then (afterClick q.1 c.2, q.2) else (q.1, markStep (orderIn rows q.1) q.2.1 q.2.2 c)
def DeedOk (wd : Nat) (rows : List (List Int)) (q : SpS) (c : Str × Int) : Prop := (c.1 = "sort" ∧ 0 ≤ c.2 ∧ c.2 < wd) ∨ ClickOk (orderIn rows q.1) q.2.2 c
structure StOk (wd : Nat) (rows : List (List Int)) (q : SpS) : Prop where
  tb : Tb wd rows
  srt : Srt wd q.1
  len : q.1.length < 50
  up : q.2.1.Pairwise (· < ·)
  few : q.2.1.length ≤ 20
def runD (rows : List (List Int)) (q : SpS) (cs : List (Str × Int)) : SpS := cs.foldl (stepS rows) q
/-- every deed of the script is sound where it comes -/
def ScriptOk (wd : Nat) (rows : List (List Int)) (q : SpS) (cs : List (Str × Int)) : Prop := ∀ pre c post, cs = pre ++ c :: post → StOk wd rows (runD rows q pre) ∧ DeedOk wd rows (runD rows q pre) c
theorem runD_snoc (rows : List (List Int)) (q : SpS) (cs : List (Str × Int)) (c : Str × Int) : runD rows q (cs ++ [c]) = stepS rows (runD rows q cs) c := by
  unfold runD
  rw [List.foldl_append]
  rfl
def hist (rows : List (List Int)) (q : SpS) (cs : List (Str × Int)) : List SpS := cs.foldl (fun h c => h ++ [stepS rows (h.getLastD q) c]) [q]
theorem hist_snoc (rows : List (List Int)) (q : SpS) (cs : List (Str × Int)) (c : Str × Int) : hist rows q (cs ++ [c]) = hist rows q cs ++ [stepS rows ((hist rows q cs).getLastD q) c] := by
  unfold hist
  rw [List.foldl_append]
  rfl
theorem snoc_ind {α : Type} {P : List α → Prop} (h0 : P []) (h1 : ∀ l a, P l → P (l ++ [a])) (l : List α) : P l := by
  have : ∀ l : List α, P l.reverse := by
    intro l
    induction l with
    | nil => exact h0
    | cons a l ih =>
      rw [List.reverse_cons]
      exact h1 _ _ ih
  have h := this l.reverse
  rw [List.reverse_reverse] at h
  exact h
theorem hist_last (rows : List (List Int)) (q : SpS) (cs : List (Str × Int)) : ∃ l, hist rows q cs = l ++ [runD rows q cs] ∧ l.length = cs.length := by
  induction cs using snoc_ind with
  | h0 => exact ⟨[], rfl, rfl⟩
  | h1 cs c ih =>
    obtain ⟨l, e, hl⟩ := ih
    refine ⟨hist rows q cs, ?_, by rw [e, List.length_append, List.length_append, hl]; rfl⟩
    rw [hist_snoc, runD_snoc, e]
    simp
section
variable {TB : Tbs} {P : Program} {w : World} {K : PySem.W.Frag} {mg : Str → Option Value} {base : Heap} {Za : Ads}
theorem F_Spot_init (Z : Fx TB w K mg base Za) : MkR TB P w K mg base Za.Spot "Spot" ["self", "look", "chosen", "origin", "top"] 1 (fun ds ns rs => ∃ (wd : Nat) (rows : List (List Int)) (q : SpS), ds = [eView Za wd rows q.1, eIs q.2.1, eO D.int q.2.2, .int 0] ∧ (True) ∧ ns = (spotNs : List Str) ∧ rs = [eView Za wd rows q.1, eIs q.2.1, eO D.int q.2.2, .int 0]) :=
  MkR.mk' (N := ["self", "look", "chosen", "origin", "top"]) Z.Spot_init ⟨rfl, rfl, rfl, by decide +kernel, rfl, by decide +kernel, by decide +kernel⟩ (by
    rintro ds ns rs ⟨wd, rows, q, rfl, h, rfl, rfl⟩
    rfl) fun x0 f cdv A outer s0 H0 E hr => by
    rintro ds ns rs ⟨wd, rows, q, rfl, h, rfl, rfl⟩
    have nd : (["self", "look", "chosen", "origin", "top"] : List Str).Nodup := by decide +kernel
    refine sd_fld 0 rfl ((pd_var 1)) Z.cls_Spot Z.no_Spot_look (by decide) (by decide) ?_
    refine sd_fld 0 rfl ((pd_var 2)) Z.cls_Spot Z.no_Spot_chosen (by decide) (by decide) ?_
    refine sd_fld 0 rfl ((pd_var 3)) Z.cls_Spot Z.no_Spot_origin (by decide) (by decide) ?_
    refine sd_fld 0 rfl ((pd_var 4)) Z.cls_Spot Z.no_Spot_top (by decide) (by decide) ?_
    exact sd_nil rfl
theorem F_Moment_init (Z : Fx TB w K mg base Za) : MkR TB P w K mg base Za.Moment "Moment" ["self", "path", "spots", "page"] 1 (fun ds ns rs => ∃ (wd : Nat) (rows : List (List Int)) (q : SpS), ds = [.lst [.str "all"], eSpots Za wd rows q, .int 0] ∧ (True) ∧ ns = (momNs : List Str) ∧ rs = [.lst [.str "all"], eSpots Za wd rows q, .int 0]) :=
  MkR.mk' (N := ["self", "path", "spots", "page"]) Z.Moment_init ⟨rfl, rfl, rfl, by decide +kernel, rfl, by decide +kernel, by decide +kernel⟩ (by
    rintro ds ns rs ⟨wd, rows, q, rfl, h, rfl, rfl⟩
    rfl) fun x0 f cdv A outer s0 H0 E hr => by
    rintro ds ns rs ⟨wd, rows, q, rfl, h, rfl, rfl⟩
    have nd : (["self", "path", "spots", "page"] : List Str).Nodup := by decide +kernel
    refine sd_fld 0 rfl ((pd_var 1)) Z.cls_Moment Z.no_Moment_path (by decide) (by decide) ?_
    refine sd_fld 0 rfl ((pd_var 2)) Z.cls_Moment Z.no_Moment_spots (by decide) (by decide) ?_
    refine sd_fld 0 rfl ((pd_var 3)) Z.cls_Moment Z.no_Moment_page (by decide) (by decide) ?_
    exact sd_nil rfl
theorem F_Moment_last (Z : Fx TB w K mg base Za) : MeR TB P w K mg base Za.Moment "last" ["self"] 1 (fun ds res => ∃ (wd : Nat) (rows : List (List Int)) (q : SpS), ds = [eMom Za wd rows q] ∧ (True) ∧ res = .str "all") :=
  MeR.mk' (N := ["self"]) Z.Moment_last ⟨rfl, rfl, rfl, by decide +kernel, rfl, by decide +kernel, by decide +kernel⟩ (by
    rintro ds res ⟨wd, rows, q, rfl, h, rfl⟩
    rfl) fun f cdv A outer s0 H0 E hr => by
    rintro ds res ⟨wd, rows, q, rfl, h, rfl⟩
    have nd : (["self"] : List Str).Nodup := by decide +kernel
    exact sd_ret (pd_ix (ds := [.str "all"]) (pd_fld 0 Z.cls_Moment Z.no_Moment_path ((pd_var 0)) (by decide) rfl rfl) (pd_neg pd_int) (.inl rfl) (atI_last [] _)) rfl
theorem F_Moment_spot (Z : Fx TB w K mg base Za) : MeR TB P w K mg base Za.Moment "spot" ["self"] 1 (fun ds res => ∃ (wd : Nat) (rows : List (List Int)) (q : SpS), ds = [eMom Za wd rows q] ∧ (True) ∧ res = eSpot Za wd rows q) :=
  MeR.mk' (N := ["self"]) Z.Moment_spot ⟨rfl, rfl, rfl, by decide +kernel, rfl, by decide +kernel, by decide +kernel⟩ (by
    rintro ds res ⟨wd, rows, q, rfl, h, rfl⟩
    rfl) fun f cdv A outer s0 H0 E hr => by
    rintro ds res ⟨wd, rows, q, rfl, h, rfl⟩
    have nd : (["self"] : List Str).Nodup := by decide +kernel
    exact sd_ret (pd_dget 0 (ks := [Sum.inr "all"]) (hu_of hr) (pd_fld 1 Z.cls_Moment Z.no_Moment_spots ((pd_var 0)) (by decide) rfl rfl) (pd_ix (ds := [.str "all"]) (pd_fld 0 Z.cls_Moment Z.no_Moment_path ((pd_var 0)) (by decide) rfl rfl) (pd_neg pd_int) (.inl rfl) (atI_last [] _)) (.inr ⟨_, rfl, rfl⟩) (by simp) rfl rfl) rfl
theorem F_Moment_with_spot (Z : Fx TB w K mg base Za) : MeR TB P w K mg base Za.Moment "with_spot" ["self", "spot"] 3 (fun ds res => ∃ (wd : Nat) (rows : List (List Int)) (q q2 : SpS), ds = [eMom Za wd rows q, eSpot Za wd rows q2] ∧ (True) ∧ res = eMom Za wd rows q2) :=
  MeR.mk' (N := ["self", "spot", "spots"]) Z.Moment_with_spot ⟨rfl, rfl, rfl, by decide +kernel, rfl, by decide +kernel, by decide +kernel⟩ (by
    rintro ds res ⟨wd, rows, q, q2, rfl, h, rfl⟩
    rfl) fun f cdv A outer s0 H0 E hr => by
    rintro ds res ⟨wd, rows, q, q2, rfl, h, rfl⟩
    have nd : (["self", "spot", "spots"] : List Str).Nodup := by decide +kernel
    refine sd_dictOwn 2 (pd_fld 1 Z.cls_Moment Z.no_Moment_spots ((pd_var 0)) (by decide) rfl rfl) Z.bl.dict ?_ nd
    refine sd_putK 2 rfl (.inr rfl) (hu_of hr) (pd_var 1) (pd_ix (ds := [.str "all"]) (pd_fld 0 Z.cls_Moment Z.no_Moment_path ((pd_var 0)) (by decide) rfl rfl) (pd_neg pd_int) (.inl rfl) (atI_last [] _)) ?_
    refine sd_weak (Weak.fzAt 2 rfl) ?_
    exact sd_ret (pd_make (F_Moment_init Z) (hr.mono (by decide)) (pds_cons ((pd_fld 0 Z.cls_Moment Z.no_Moment_path ((pd_var 0)) (by decide) rfl rfl)) (pds_cons ((pd_var 2)) (pds_cons ((pd_fld 2 Z.cls_Moment Z.no_Moment_page ((pd_var 0)) (by decide) rfl rfl)) pds_nil))) ⟨wd, rows, q2, rfl, True.intro, rfl, rfl⟩) rfl
theorem F_need_window (Z : Fx TB w K mg base Za) : FnR TB P w K mg base "need_window" ["height", "room"] 1 (fun ds res => ds = [.int 9, .int 0] ∧ (True) ∧ res = .non) :=
  FnR.mk' (N := ["height", "room"]) Z.need_window ⟨rfl, rfl, rfl, by decide +kernel, rfl, by decide +kernel, by decide +kernel⟩ (by
    rintro ds res ⟨rfl, h, rfl⟩
    rfl) fun f cdv A outer s0 H0 E hr => by
    rintro ds res ⟨rfl, h, rfl⟩
    have nd : (["height", "room"] : List Str).Nodup := by decide +kernel
    refine sd_check ((pt_c (pcd_lt (pd_var 0) pd_int)).cast (by decide)) ?_
    exact sd_check ((pt_c (pcd_lt (pd_var 1) pd_int)).cast (by decide)) (sd_nil rfl)
theorem F_first_moment (Z : Fx TB w K mg base Za) : FnR TB P w K mg base "first_moment" ["house"] 9 (fun ds res => ∃ (wd : Nat) (rows : List (List Int)), ds = [eHouse Za wd rows] ∧ (Tb wd rows) ∧ res = eMom Za wd rows ([], [], none)) :=
  FnR.mk' (N := ["house", "spots", "name", "table", "look", "column"]) Z.first_moment ⟨rfl, rfl, rfl, by decide +kernel, rfl, by decide +kernel, by decide +kernel⟩ (by
    rintro ds res ⟨wd, rows, rfl, h, rfl⟩
    rfl) fun f cdv A outer s0 H0 E hr => by
    rintro ds res ⟨wd, rows, rfl, h, rfl⟩
    have nd : (["house", "spots", "name", "table", "look", "column"] : List Str).Nodup := by decide +kernel
    have hpos := h.pos
    have hwd := h.wide
    have hs0 : Srt wd [] := ⟨⟨by simp, fun k hk => by cases hk⟩, Nat.zero_le _, fun k hk => by cases hk⟩
    refine sd_ownD 1 ?_ nd
    refine sd_forS [()] (fun _ => D.str "all") (fun pre => [.d (eHouse Za wd rows), .o (if pre = [] then .k [] [] else .k [Sum.inr "all"] [eSpot Za wd rows ([], [], none)]), .no, .no, .no, .no]) (pid_list (pd_prop (F_House_names Z) (hr.mono (by decide)) ((pd_var 0)) ⟨_, _, rfl, True.intro, rfl⟩)) rfl (fun pre a post e => ⟨_, _, (pgd_name 2 nd), ?_⟩) ?_
    · have hpre : pre = [] := by
        cases pre with
        | nil => rfl
        | cons x l =>
          have := congrArg List.length e
          simp at this
      subst hpre
      refine sd_set 3 (pd_getO (F_House_getitem Z) (hr.mono (by decide)) (pd_var 0) (pd_var 2) ⟨_, _, rfl, True.intro, rfl⟩) ?_ nd
      refine sd_set 4 ((pd_make (F_View_init Z) (hr.mono (by decide)) (pds_cons ((pd_var 3)) (pds_cons (pd_lst pds_nil) (pds_cons ((pd_call (F_open_filters Z) (hr.mono (by decide)) (pds_cons ((pd_prop (F_Table_width Z) (hr.mono (by decide)) ((pd_var 3)) ⟨_, _, rfl, True.intro, rfl⟩)) pds_nil) ⟨wd, rfl, ⟨hpos, by omega⟩, rfl⟩)) (pds_cons (PD.cast (pd_lcA [("column", 5)] (rg wd) (D.int) ((fun _ => D.lst [])) ((by rw [← rgD_eq]; exact pid_range Z.bl.range (pd_prop (F_Table_width Z) (hr.mono (by decide)) ((pd_var 3)) ⟨_, _, rfl, True.intro, rfl⟩) (by omega))) ((by rw [rg_length]; omega)) (fun i hi' => ⟨_, _, by decide, (fun _ _ _ _ _ => (pgd_name 5 nd)), fun _ _ _ _ _ => ptsd_nil, fun _ _ _ _ _ _ => (pd_lst pds_nil)⟩) nd (blkOk_by (show blkC ["house", "spots", "name", "table", "look", "column"] (defScope (topS 115)) _ [("column", 5)] = true from by decide +kernel))) (show _ = eFolds wd by rw [List.map_const', rg_length])) pds_nil)))) ⟨wd, rows, [], rfl, ⟨h, hs0⟩, rfl, rfl⟩)) ?_ nd
      exact sd_putK 1 rfl (.inl rfl) (hu_of hr) (pd_make (F_Spot_init Z) (hr.mono (by decide)) (pds_cons ((pd_var 4)) (pds_cons (pd_lst pds_nil) (pds_cons (pd_non) (pds_cons (pd_int) pds_nil)))) ⟨wd, rows, ([], [], none), rfl, True.intro, rfl, rfl⟩) (pd_var 2) (sd_nil (by repeat (first | exact Weak.nil | (refine Weak.cons (by first | exact WkS.refl | exact WkS.drop | exact WkS.fz | exact WkS.of_eq (by simp )) ?_))))
    · refine sd_weak (Weak.fzAt 1 rfl) ?_
      exact sd_ret (pd_make (F_Moment_init Z) (hr.mono (by decide)) (pds_cons (pd_lst (pds_cons (pd_ix (ds := [.str "all"]) (pd_prop (F_House_names Z) (hr.mono (by decide)) ((pd_var 0)) ⟨_, _, rfl, True.intro, rfl⟩) pd_int (.inl rfl) (atI0 _ _)) pds_nil)) (pds_cons ((pd_var 1)) (pds_cons (pd_int) pds_nil))) ⟨wd, rows, ([], [], none), rfl, True.intro, rfl, rfl⟩) rfl
theorem F_need_deed (Z : Fx TB w K mg base Za) : FnR TB P w K mg base "need_deed" ["deed"] 1 (fun ds res => ∃ (c : Str × Int), ds = [eC c] ∧ (c.1 = "sort" ∨ c.1 = "click" ∨ c.1 = "range") ∧ res = .non) :=
  FnR.mk' (N := ["deed"]) Z.need_deed ⟨rfl, rfl, rfl, by decide +kernel, rfl, by decide +kernel, by decide +kernel⟩ (by
    rintro ds res ⟨c, rfl, h, rfl⟩
    rfl) fun f cdv A outer s0 H0 E hr => by
    rintro ds res ⟨c, rfl, h, rfl⟩
    have nd : (["deed"] : List Str).Nodup := by decide +kernel
    have hz : (c.1, (2 : Int)) ∈ [((("sort" : Str)), (2 : Int)), ("click", 2), ("range", 2)] := by
      rcases h with e | e | e <;> rw [e] <;> simp
    refine sd_check ((pw_t (pwd_or (pt_c (pcd_eqI (pd_len Z.bl.len (pd_var 0) (.inr rfl)) pd_int)) fun _ => pwd_or (pt_c (pcd_ninKd Z.PARTS (pd_ix (d := .str c.1) (pd_var 0) pd_int (.inr rfl) (atI0 _ _)) hz)) fun _ => pwd_or1 (pt_c (pcd_neI (pd_len Z.bl.len (pd_var 0) (.inr rfl)) (pd_kd Z.PARTS (pd_ix (d := .str c.1) (pd_var 0) pd_int (.inr rfl) (atI0 _ _)) hz))))).cast (by simp)) (sd_nil rfl)
theorem F_clicked_on (Z : Fx TB w K mg base Za) : FnR TB P w K mg base "clicked_on" ["moment", "deed"] 5 (fun ds res => ∃ (wd : Nat) (rows : List (List Int)) (q : SpS) (c : Str × Int), ds = [eMom Za wd rows q, eC c] ∧ ((Tb wd rows ∧ ClickOk (orderIn rows q.1) q.2.2 c) ∧ q.2.1.Pairwise (· < ·) ∧ q.2.1.length ≤ 20) ∧ res = eMom Za wd rows (q.1, markStep (orderIn rows q.1) q.2.1 q.2.2 c)) :=
  FnR.mk' (N := ["moment", "deed", "spot", "there", "chosen", "origin"]) Z.clicked_on ⟨rfl, rfl, rfl, by decide +kernel, rfl, by decide +kernel, by decide +kernel⟩ (by
    rintro ds res ⟨wd, rows, q, c, rfl, h, rfl⟩
    rfl) fun f cdv A outer s0 H0 E hr => by
    rintro ds res ⟨wd, rows, q, c, rfl, h, rfl⟩
    have nd : (["moment", "deed", "spot", "there", "chosen", "origin"] : List Str).Nodup := by decide +kernel
    obtain ⟨⟨ht, hc⟩, hm, hl⟩ := h
    have hf := ht.few
    have hol : (orderIn rows q.1).length = rows.length := orderIn_length _ _
    have hp := hc.pos
    refine sd_set 2 ((pd_meth0 (F_Moment_spot Z) (hr.mono (by decide)) ((pd_var 0)) ⟨wd, rows, q, rfl, True.intro, rfl⟩ (by decide))) ?_ nd
    refine sd_set 3 ((pd_meth0 (F_View_open_rows Z) (hr.mono (by decide)) ((pd_fld 0 Z.cls_Spot Z.no_Spot_look ((pd_var 2)) (by decide) rfl rfl)) ⟨wd, rows, q.1, rfl, by omega, rfl⟩ (by decide))) ?_ nd
    refine sd_check ((pt_not' (pt_chain' op_le op_lt pd_int (pd_ix (d := .int c.2) (pd_var 1) pd_int (.inr rfl) (atI1 _ _ _)) ((pd_len Z.bl.len (pd_var 3) (.inl rfl)).cast (by rw [List.length_map])))).cast (by simp; omega)) ?_
    refine sd_unpack (pd_call (F_marked Z) (hr.mono (by decide)) (pds_cons ((pd_var 3)) (pds_cons ((pd_fld 1 Z.cls_Spot Z.no_Spot_chosen ((pd_var 2)) (by decide) rfl rfl)) (pds_cons ((pd_fld 2 Z.cls_Spot Z.no_Spot_origin ((pd_var 2)) (by decide) rfl rfl)) (pds_cons (pd_lst (pds_cons ((pd_var 1)) pds_nil)) pds_nil)))) ⟨orderIn rows q.1, q.2.1, q.2.2, c, rfl, ⟨⟨hc, order_nodup _ _⟩, hm, by omega, hl⟩, rfl⟩) (pgd_tup (pgsd_cons (pgd_name 4 nd) (pgsd_cons (pgd_name 5 nd) pgsd_nil))) ?_
    exact sd_ret (pd_meth (F_Moment_with_spot Z) (hr.mono (by decide)) ((pd_var 0)) (pds_cons ((pd_make (F_Spot_init Z) (hr.mono (by decide)) (pds_cons ((pd_fld 0 Z.cls_Spot Z.no_Spot_look ((pd_var 2)) (by decide) rfl rfl)) (pds_cons ((pd_var 4)) (pds_cons ((pd_var 5)) (pds_cons ((pd_fld 3 Z.cls_Spot Z.no_Spot_top ((pd_var 2)) (by decide) rfl rfl)) pds_nil)))) ⟨wd, rows, (q.1, markStep (orderIn rows q.1) q.2.1 q.2.2 c), rfl, True.intro, rfl, rfl⟩)) pds_nil) ⟨wd, rows, q, (q.1, markStep (orderIn rows q.1) q.2.1 q.2.2 c), rfl, True.intro, rfl⟩ (by decide)) rfl
theorem F_clipped_moment (Z : Fx TB w K mg base Za) : FnR TB P w K mg base "clipped_moment" ["height", "moment"] 4 (fun ds res => ∃ (wd : Nat) (rows : List (List Int)) (q : SpS), ds = [.int 9, eMom Za wd rows q] ∧ (Tb wd rows) ∧ res = eMom Za wd rows q) :=
  FnR.mk' (N := ["height", "moment", "spot", "top"]) Z.clipped_moment ⟨rfl, rfl, rfl, by decide +kernel, rfl, by decide +kernel, by decide +kernel⟩ (by
    rintro ds res ⟨wd, rows, q, rfl, h, rfl⟩
    rfl) fun f cdv A outer s0 H0 E hr => by
    rintro ds res ⟨wd, rows, q, rfl, h, rfl⟩
    have nd : (["height", "moment", "spot", "top"] : List Str).Nodup := by decide +kernel
    have hf := h.few
    have hvl := viewLines_length rows q.1
    refine sd_set 2 ((pd_meth0 (F_Moment_spot Z) (hr.mono (by decide)) ((pd_var 1)) ⟨wd, rows, q, rfl, True.intro, rfl⟩ (by decide))) ?_ nd
    refine sd_set 3 (pd_ix (ds := [.int 0, .int 0]) (pd_call (F_clipped Z) (hr.mono (by decide)) (pds_cons (pd_tup (pds_cons ((pd_call (F_room_of Z) (hr.mono (by decide)) (pds_cons ((pd_lenO (n := (viewLines rows q.1).length) (F_View_len Z) (hr.mono (by decide)) Z.bl.len ((pd_fld 0 Z.cls_Spot Z.no_Spot_look ((pd_var 2)) (by decide) rfl rfl)) ⟨wd, rows, q.1, rfl, True.intro, rfl⟩ (by omega))) (pds_cons ((pd_var 0)) pds_nil)) ⟨_, _, rfl, ⟨by omega, by decide⟩, rfl⟩)) (pds_cons (pd_int) pds_nil))) (pds_cons (pd_tup (pds_cons ((pd_fld 3 Z.cls_Spot Z.no_Spot_top ((pd_var 2)) (by decide) rfl rfl)) (pds_cons (pd_int) pds_nil))) pds_nil)) ⟨_, rfl, by omega, rfl⟩) pd_int (.inr rfl) (atI0 _ _)) ?_ nd
    refine sd_if (t := true) ((pt_c (pcd_eqI (pd_var 3) (pd_fld 3 Z.cls_Spot Z.no_Spot_top ((pd_var 2)) (by decide) rfl rfl))).cast (by decide)) (fun _ => ?_) fun z => by cases z
    exact sd_ret (pd_var 1) rfl
theorem F_moment_after (Z : Fx TB w K mg base Za) : FnR TB P w K mg base "moment_after" ["house", "height", "room", "moment", "deed"] 10 (fun ds res => ∃ (wd : Nat) (rows : List (List Int)) (q : SpS) (c : Str × Int), ds = [eHouse Za wd rows, .int 9, .int 0, eMom Za wd rows q, eC c] ∧ (StOk wd rows q ∧ DeedOk wd rows q c) ∧ res = eMom Za wd rows (stepS rows q c)) :=
  FnR.mk' (N := ["house", "height", "room", "moment", "deed", "spot", "look"]) Z.moment_after ⟨rfl, rfl, rfl, by decide +kernel, rfl, by decide +kernel, by decide +kernel⟩ (by
    rintro ds res ⟨wd, rows, q, c, rfl, h, rfl⟩
    rfl) fun f cdv A outer s0 H0 E hr => by
    rintro ds res ⟨wd, rows, q, c, rfl, h, rfl⟩
    have nd : (["house", "height", "room", "moment", "deed", "spot", "look"] : List Str).Nodup := by decide +kernel
    obtain ⟨hs, hd⟩ := h
    have hw : c.1 = "sort" ∨ c.1 = "click" ∨ c.1 = "range" := by
      rcases hd with hd | hd
      · exact .inl hd.1
      · exact .inr (hd.word.elim .inl fun z => .inr z.1)
    refine sd_expr (pd_call (F_need_deed Z) (hr.mono (by decide)) (pds_cons ((pd_var 4)) pds_nil) ⟨c, rfl, hw, rfl⟩) ?_
    refine sd_when (t := false) ((pt_c (pcd_eqS (pd_ix (d := .str c.1) (pd_var 4) pd_int (.inr rfl) (atI0 _ _)) pd_str)).cast (by rcases hw with e | e | e <;> rw [e] <;> decide +kernel)) (fun z => by cases z) fun _ => ?_
    refine sd_when (t := decide (c.1 ∈ [(("click" : Str)), "range"])) (pt_c (pcd_inGL (zs := ["click", "range"]) Z.MARKING (pd_ix (d := .str c.1) (pd_var 4) pd_int (.inr rfl) (atI0 _ _)))) (fun z => ?_) fun z => ?_
    · have hns : ¬ c.1 = "sort" := fun e => by
        rw [e] at z
        revert z
        decide +kernel
      have hc : ClickOk (orderIn rows q.1) q.2.2 c := hd.resolve_left fun x => hns x.1
      exact sd_ret (pd_call (F_clicked_on Z) (hr.mono (by decide)) (pds_cons ((pd_var 3)) (pds_cons ((pd_var 4)) pds_nil)) ⟨wd, rows, q, c, rfl, ⟨⟨hs.tb, hc⟩, hs.up, hs.few⟩, rfl⟩) (by show eMom _ _ _ _ = _; unfold stepS; rw [if_neg hns])
    · have hsort : c.1 = "sort" := by
        rcases hw with e | e | e
        · exact e
        · rw [e] at z
          simp at z
        · rw [e] at z
          simp at z
      obtain ⟨cw, ci⟩ := c
      simp only at hsort
      subst hsort
      have hc : 0 ≤ ci ∧ ci < wd := by
        rcases hd with hd | hd
        · exact hd.2
        · exfalso
          rcases hd.word with e | e
          · revert e
            show ¬ (Str.ofString "sort" = Str.ofString "click")
            decide +kernel
          · have e := e.1
            revert e
            show ¬ (Str.ofString "sort" = Str.ofString "range")
            decide +kernel
      refine sd_when (t := false) ((pt_c (pcd_eqS (pd_ix (d := .str "sort") (pd_var 4) pd_int (.inr rfl) (atI0 _ _)) pd_str)).cast (by decide +kernel)) (fun z => by cases z) fun _ => ?_
      refine sd_set 5 ((pd_meth0 (F_Moment_spot Z) (hr.mono (by decide)) ((pd_var 3)) ⟨wd, rows, q, rfl, True.intro, rfl⟩ (by decide))) ?_ nd
      refine sd_set 6 ((pd_meth (F_View_done Z) (hr.mono (by decide)) ((pd_fld 0 Z.cls_Spot Z.no_Spot_look ((pd_var 5)) (by decide) rfl rfl)) (pds_cons (pd_lst (pds_cons ((pd_var 4)) pds_nil)) pds_nil) ⟨wd, rows, q.1, ci, rfl, ⟨⟨hs.tb, hs.srt, hs.len⟩, hc⟩, rfl⟩ (by decide))) ?_ nd
      exact sd_ret (pd_call (F_clipped_moment Z) (hr.mono (by decide)) (pds_cons ((pd_var 1)) (pds_cons ((pd_meth (F_Moment_with_spot Z) (hr.mono (by decide)) ((pd_var 3)) (pds_cons ((pd_make (F_Spot_init Z) (hr.mono (by decide)) (pds_cons ((pd_var 6)) (pds_cons ((pd_fld 1 Z.cls_Spot Z.no_Spot_chosen ((pd_var 5)) (by decide) rfl rfl)) (pds_cons ((pd_fld 2 Z.cls_Spot Z.no_Spot_origin ((pd_var 5)) (by decide) rfl rfl)) (pds_cons ((pd_fld 3 Z.cls_Spot Z.no_Spot_top ((pd_var 5)) (by decide) rfl rfl)) pds_nil)))) ⟨wd, rows, (afterClick q.1 ci, q.2), rfl, True.intro, rfl, rfl⟩)) pds_nil) ⟨wd, rows, q, (afterClick q.1 ci, q.2), rfl, True.intro, rfl⟩ (by decide))) pds_nil)) ⟨wd, rows, (afterClick q.1 ci, q.2), rfl, hs.tb, rfl⟩) (by show eMom _ _ _ _ = _; unfold stepS; rw [if_pos rfl])
theorem F_moments_of (Z : Fx TB w K mg base Za) : FnR TB P w K mg base "moments_of" ["house", "height", "room", "script"] 11 (fun ds res => ∃ (wd : Nat) (rows : List (List Int)) (cs : List (Str × Int)), ds = [eHouse Za wd rows, .int 9, .int 0, eCs cs] ∧ ((Tb wd rows ∧ cs.length ≤ 1000) ∧ ScriptOk wd rows ([], [], none) cs) ∧ res = .lst ((hist rows ([], [], none) cs).map (eMom Za wd rows))) :=
  FnR.mk' (N := ["house", "height", "room", "script", "found", "deed"]) Z.moments_of ⟨rfl, rfl, rfl, by decide +kernel, rfl, by decide +kernel, by decide +kernel⟩ (by
    rintro ds res ⟨wd, rows, cs, rfl, h, rfl⟩
    rfl) fun f cdv A outer s0 H0 E hr => by
    rintro ds res ⟨wd, rows, cs, rfl, h, rfl⟩
    have nd : (["house", "height", "room", "script", "found", "deed"] : List Str).Nodup := by decide +kernel
    obtain ⟨⟨ht, hl⟩, hok⟩ := h
    refine sd_expr (pd_call (F_need_window Z) (hr.mono (by decide)) (pds_cons ((pd_var 1)) (pds_cons ((pd_var 2)) pds_nil)) ⟨rfl, True.intro, rfl⟩) ?_
    refine sd_ownL 4 (ds := [eMom Za wd rows ([], [], none)]) (pds_cons ((pd_call (F_first_moment Z) (hr.mono (by decide)) (pds_cons ((pd_var 0)) pds_nil) ⟨wd, rows, rfl, ht, rfl⟩)) pds_nil) (by show 1 ≤ 1000; decide) ?_ nd
    refine sd_forS cs eC (fun pre => [.d (eHouse Za wd rows), .d (.int 9), .d (.int 0), .d (eCs cs), .o (.l ((hist rows ([], [], none) pre).map (eMom Za wd rows))), .no]) (pid_list (pd_var 3)) rfl (fun pre a post e => ⟨_, _, (pgd_name 5 nd), ?_⟩) ?_
    · obtain ⟨l, e1, e2⟩ := hist_last rows ([], [], none) pre
      obtain ⟨o1, o2⟩ := hok pre a post e
      have hpl : pre.length ≤ cs.length := by rw [e]; simp
      rw [hist_snoc]
      refine sd_app 4 rfl (d := eMom Za wd rows (stepS rows (runD rows ([], [], none) pre) a)) (pd_call (F_moment_after Z) (hr.mono (by decide)) (pds_cons ((pd_var 0)) (pds_cons ((pd_var 1)) (pds_cons ((pd_var 2)) (pds_cons (pd_ixo 4 (d := eMom Za wd rows (runD rows ([], [], none) pre)) rfl (pd_neg pd_int) (by rw [e1, List.map_append]; exact atI_last _ _)) (pds_cons ((pd_var 5)) pds_nil))))) ⟨wd, rows, _, a, rfl, ⟨o1, o2⟩, rfl⟩) (by rw [List.length_map, e1, List.length_append, List.length_singleton]; omega) (sd_nil ?_)
      show Weak _ _
      rw [show ((hist rows ([], [], none) pre).getLastD ([], [], none)) = runD rows ([], [], none) pre by rw [e1]; simp, List.map_append]
      exact (by repeat (first | exact Weak.nil | (refine Weak.cons (by first | exact WkS.refl | exact WkS.drop | exact WkS.fz | exact WkS.of_eq (by simp )) ?_)))
    · refine sd_weak (Weak.fzAt 4 rfl) ?_
      exact sd_ret (pd_var 4) rfl
theorem F_last_moment (Z : Fx TB w K mg base Za) : FnR TB P w K mg base "last_moment" ["house", "height", "room", "script"] 12 (fun ds res => ∃ (wd : Nat) (rows : List (List Int)) (cs : List (Str × Int)), ds = [eHouse Za wd rows, .int 9, .int 0, eCs cs] ∧ ((Tb wd rows ∧ cs.length ≤ 1000) ∧ ScriptOk wd rows ([], [], none) cs) ∧ res = eMom Za wd rows (runD rows ([], [], none) cs)) :=
  FnR.mk' (N := ["house", "height", "room", "script"]) Z.last_moment ⟨rfl, rfl, rfl, by decide +kernel, rfl, by decide +kernel, by decide +kernel⟩ (by
    rintro ds res ⟨wd, rows, cs, rfl, h, rfl⟩
    rfl) fun f cdv A outer s0 H0 E hr => by
    rintro ds res ⟨wd, rows, cs, rfl, h, rfl⟩
    have nd : (["house", "height", "room", "script"] : List Str).Nodup := by decide +kernel
    obtain ⟨l, e1, e2⟩ := hist_last rows ([], [], none) cs
    exact sd_ret (pd_ix (pd_call (F_moments_of Z) (hr.mono (by decide)) (pds_cons ((pd_var 0)) (pds_cons ((pd_var 1)) (pds_cons ((pd_var 2)) (pds_cons ((pd_var 3)) pds_nil)))) ⟨wd, rows, cs, rfl, h, rfl⟩) (pd_neg pd_int) (.inl rfl) (by rw [e1, List.map_append]; exact atI_last _ _)) rfl
theorem F_last_or_none (Z : Fx TB w K mg base Za) : FnR TB P w K mg base "last_or_none" ["house", "height", "room", "script"] 13 (fun ds res => ∃ (wd : Nat) (rows : List (List Int)) (cs : List (Str × Int)), ds = [eHouse Za wd rows, .int 9, .int 0, eCs cs] ∧ ((Tb wd rows ∧ cs.length ≤ 1000) ∧ ScriptOk wd rows ([], [], none) cs) ∧ res = eMom Za wd rows (runD rows ([], [], none) cs)) :=
  FnR.mk' (N := ["house", "height", "room", "script", "found"]) Z.last_or_none ⟨rfl, rfl, rfl, by decide +kernel, rfl, by decide +kernel, by decide +kernel⟩ (by
    rintro ds res ⟨wd, rows, cs, rfl, h, rfl⟩
    rfl) fun f cdv A outer s0 H0 E hr => by
    rintro ds res ⟨wd, rows, cs, rfl, h, rfl⟩
    have nd : (["house", "height", "room", "script", "found"] : List Str).Nodup := by decide +kernel
    refine sd_set 4 (pd_non) ?_ nd
    refine sd_try ?_
    refine sd_set 4 ((pd_call (F_last_moment Z) (hr.mono (by decide)) (pds_cons ((pd_var 0)) (pds_cons ((pd_var 1)) (pds_cons ((pd_var 2)) (pds_cons ((pd_var 3)) pds_nil)))) ⟨wd, rows, cs, rfl, h, rfl⟩)) ?_ nd
    exact sd_nil (sd_ret (pd_var 4) rfl)
theorem F_spot_after (Z : Fx TB w K mg base Za) : FnR TB P w K mg base "spot_after" ["house", "height", "room", "script"] 13 (fun ds res => ∃ (wd : Nat) (rows : List (List Int)) (cs : List (Str × Int)), ds = [eHouse Za wd rows, .int 9, .int 0, eCs cs] ∧ ((Tb wd rows ∧ cs.length ≤ 1000) ∧ ScriptOk wd rows ([], [], none) cs) ∧ res = eSpot Za wd rows (runD rows ([], [], none) cs)) :=
  FnR.mk' (N := ["house", "height", "room", "script"]) Z.spot_after ⟨rfl, rfl, rfl, by decide +kernel, rfl, by decide +kernel, by decide +kernel⟩ (by
    rintro ds res ⟨wd, rows, cs, rfl, h, rfl⟩
    rfl) fun f cdv A outer s0 H0 E hr => by
    rintro ds res ⟨wd, rows, cs, rfl, h, rfl⟩
    have nd : (["house", "height", "room", "script"] : List Str).Nodup := by decide +kernel
    exact sd_ret (pd_meth0 (F_Moment_spot Z) (hr.mono (by decide)) ((pd_call (F_last_moment Z) (hr.mono (by decide)) (pds_cons ((pd_var 0)) (pds_cons ((pd_var 1)) (pds_cons ((pd_var 2)) (pds_cons ((pd_var 3)) pds_nil)))) ⟨wd, rows, cs, rfl, h, rfl⟩)) ⟨wd, rows, _, rfl, True.intro, rfl⟩ (by decide)) rfl
end
end Lw
set_option Elab.async false
set_option linter.all false
set_option maxRecDepth 100000
set_option maxHeartbeats 4000000
/-! # wishes -/
namespace Lw
open PySem PySem.Spec PyProof.Rows L2
abbrev Deed := Str × Int
def headsOf (cs : List Int) : List Deed := cs.map fun c => (("sort" : Str), c)
def backTo' (wd : Nat) (rows : List (List Int)) (stop : List Key) : Option (List Int) → Option (List Int)
  | none => some []
  | some o => nearestWay wd rows stop o
def planBy (wd : Nat) (rows : List (List Int)) (s stop : List Key) (o : Option (List Int)) (m : List Int) : Option (List Deed) :=
  match wayBetween s stop, backTo' wd rows stop o with
  | some a, some b => some (headsOf a ++ cheapestIn (orderIn rows stop) m ++ headsOf b)
  | _, _ => none
def better (best found : Option (List Deed)) : Option (List Deed) :=
  match found with
  | none => best
  | some f => match best with
    | none => some f
    | some b => if f.length < b.length then some f else some b
def bestPlan (wd : Nat) (rows : List (List Int)) (s : List Key) (o : Option (List Int)) (m : List Int) : Option (List Deed) :=
  (sorts wd).foldl (fun best stop => better best (planBy wd rows s stop o m)) none
abbrev ePlan : Option (List Deed) → D := eO eCs
structure GoalOk (rows : List (List Int)) (o : Option (List Int)) (m : List Int) : Prop where
  ord : ∀ x, o = some x → x.Perm (rg rows.length)
  up : m.Pairwise (· < ·)
  few : m.length ≤ 1000
  inr : ∀ x ∈ m, 0 ≤ x ∧ x < rows.length
theorem isNon_plan (o : Option (List Deed)) : isNon (ePlan o) = o.isNone := by cases o <;> rfl
section
variable {TB : Tbs} {P : Program} {w : World} {K : PySem.W.Frag} {mg : Str → Option Value} {base : Heap} {Za : Ads}
theorem F_heads (Z : Fx TB w K mg base Za) : FnR TB P w K mg base "heads" ["clicks"] 1 (fun ds res => ∃ (cs : List Int), ds = [eIs cs] ∧ (cs.length ≤ 1000) ∧ res = eCs (headsOf cs)) :=
  FnR.mk' (N := ["clicks", "column"]) Z.heads ⟨rfl, rfl, rfl, by decide +kernel, rfl, by decide +kernel, by decide +kernel⟩ (by
    rintro ds res ⟨cs, rfl, h, rfl⟩
    rfl) fun f cdv A outer s0 H0 E hr => by
    rintro ds res ⟨cs, rfl, h, rfl⟩
    have nd : (["clicks", "column"] : List Str).Nodup := by decide +kernel
    exact sd_ret (PD.cast (pd_lcA [("column", 1)] (cs) (D.int) ((fun c => eC ("sort", c))) (pid_list (pd_var 0)) ((by omega)) (fun c hc' => ⟨_, _, by decide, (fun _ _ _ _ _ => (pgd_name 1 nd)), fun _ _ _ _ _ => ptsd_nil, fun _ _ _ _ _ _ => (pd_tup (pds_cons (pd_gS Z.SORT) (pds_cons ((pd_var 1)) pds_nil)))⟩) nd (blkOk_by (show blkC ["clicks", "column"] (defScope (topS 129)) _ [("column", 1)] = true from by decide +kernel))) (by show _ = D.lst ((headsOf cs).map eC); unfold headsOf; rw [List.map_map]; rfl)) rfl
theorem F_need_plain (Z : Fx TB w K mg base Za) : FnR TB P w K mg base "need_plain" ["spot", "marks"] 3 (fun ds res => ∃ (wd : Nat) (rows : List (List Int)) (s : List Key) (m : List Int), ds = [eSpot Za wd rows (s, [], none), eIs m] ∧ (Tb wd rows) ∧ res = .non) :=
  FnR.mk' (N := ["spot", "marks", "look", "is_folded", "values"]) Z.need_plain ⟨rfl, rfl, rfl, by decide +kernel, rfl, by decide +kernel, by decide +kernel⟩ (by
    rintro ds res ⟨wd, rows, s, m, rfl, h, rfl⟩
    rfl) fun f cdv A outer s0 H0 E hr => by
    rintro ds res ⟨wd, rows, s, m, rfl, h, rfl⟩
    have nd : (["spot", "marks", "look", "is_folded", "values"] : List Str).Nodup := by decide +kernel
    have hf := h.few
    have hwd := h.wide
    have hul := hr.units
    refine sd_set 2 ((pd_fld 0 Z.cls_Spot Z.no_Spot_look ((pd_var 0)) (by decide) rfl rfl)) ?_ nd
    refine sd_set 3 (pd_any (bs := List.replicate wd false) Z.bl.any (PD.cast (pd_lcA [("values", 4)] (List.replicate wd ()) ((fun _ => D.lst [])) ((fun _ => D.bl false)) ((by rw [List.map_replicate]; exact pid_list (pd_prop (F_View_folds Z) (hr.mono (by decide)) ((pd_var 2)) ⟨_, _, _, rfl, by omega, rfl⟩))) ((by simp; omega)) (fun u hu' => ⟨_, _, by decide, (fun _ _ _ _ _ => (pgd_name 4 nd)), fun _ _ _ _ _ => ptsd_nil, fun _ _ _ _ _ _ => ((pd_c (pcd_neNil (F := ([] : List Int)) (e := D.int) hul (pd_var 4) (by simp))).cast rfl)⟩) nd (blkOk_by (show blkC ["spot", "marks", "look", "is_folded", "values"] (defScope (topS 131)) _ [("values", 4)] = true from by decide +kernel))) (by rw [List.map_replicate, List.map_replicate]))) ?_ nd
    refine sd_check ((pw_t (pwd_or (pt_c (pcd_lt ((pd_len Z.bl.len (pd_meth0 (F_View_shown Z) (hr.mono (by decide)) ((pd_var 2)) ⟨_, _, _, rfl, True.intro, rfl⟩ (by decide)) (.inl rfl)).cast (by rw [List.length_map, orderIn_length])) (pd_lenO (n := rows.length) (F_Table_len Z) (hr.mono (by decide)) Z.bl.len ((pd_prop (F_View_table Z) (hr.mono (by decide)) ((pd_var 2)) ⟨_, _, _, rfl, True.intro, rfl⟩)) ⟨_, _, rfl, True.intro, rfl⟩ (by omega)))) fun _ => pwd_or (pt_v (pd_var 3)) fun _ => pwd_or (pt_c (pcd_neNil (F := ([] : List Int)) (e := D.int) hul (pd_fld 1 Z.cls_Spot Z.no_Spot_chosen ((pd_var 0)) (by decide) rfl rfl) (by simp))) fun _ => pwd_or1 (pt_c (pcd_notN (x := .non) (pd_fld 2 Z.cls_Spot Z.no_Spot_origin ((pd_var 0)) (by decide) rfl rfl))))).cast ?_) (sd_nil rfl)
    have e : (List.replicate wd false).any id = false := by
      rw [List.any_eq_false]
      intro x hx
      rw [(List.mem_replicate.mp hx).2]
      simp
    rw [e]
    simp [isNon]
theorem F_plan_by (Z : Fx TB w K mg base Za) : FnR TB P w K mg base "plan_by" ["table", "sorting", "stop", "order", "marks"] 8 (fun ds res => ∃ (wd : Nat) (rows : List (List Int)) (s stop : List Key) (o : Option (List Int)) (m : List Int), ds = [eTable Za wd rows, eKs s, eKs stop, eWay o, eIs m] ∧ ((Tb wd rows ∧ Srt wd s ∧ Srt wd stop) ∧ Even1 (orderIn rows stop) m ∧ ∀ l, planBy wd rows s stop o m = some l → l.length ≤ 1000) ∧ res = ePlan (planBy wd rows s stop o m)) :=
  FnR.mk' (N := ["table", "sorting", "stop", "order", "marks", "there", "back"]) Z.plan_by ⟨rfl, rfl, rfl, by decide +kernel, rfl, by decide +kernel, by decide +kernel⟩ (by
    rintro ds res ⟨wd, rows, s, stop, o, m, rfl, h, rfl⟩
    rfl) fun f cdv A outer s0 H0 E hr => by
    rintro ds res ⟨wd, rows, s, stop, o, m, rfl, h, rfl⟩
    have nd : (["table", "sorting", "stop", "order", "marks", "there", "back"] : List Str).Nodup := by decide +kernel
    obtain ⟨⟨ht, hs, hg⟩, hev, hlen⟩ := h
    have hf := ht.few
    have h1 := hs.len
    have h2 := hg.len
    refine sd_set 5 ((pd_call (F_way_between Z) (hr.mono (by decide)) (pds_cons ((pd_var 1)) (pds_cons ((pd_var 2)) pds_nil)) ⟨s, stop, rfl, ⟨by omega, by omega⟩, rfl⟩)) ?_ nd
    refine sd_set 6 (d := eWay (backTo' wd rows stop o)) ?_ ?_ nd
    · cases o with
      | none => exact pd_if (pt_c (pcd_isN (pd_var 3))) (fun _ => pd_lst pds_nil) fun z => by cases z
      | some x => exact pd_if (pt_c (pcd_isN (pd_var 3))) (fun z => by cases z) fun _ => (pd_call (F_way_to_order Z) (hr.mono (by decide)) (pds_cons ((pd_var 0)) (pds_cons ((pd_var 2)) (pds_cons ((pd_var 3)) pds_nil))) ⟨wd, rows, stop, x, rfl, ⟨ht, hg⟩, rfl⟩)
    · refine sd_when (t := (wayBetween s stop).isNone || (backTo' wd rows stop o).isNone) ((pw_t (pwd_or (pt_c (pcd_isN (pd_var 5))) fun _ => pwd_or1 (pt_c (pcd_isN (pd_var 6))))).cast (by rw [isNon_way, isNon_way])) (fun z => sd_ret pd_non ?_) fun z => ?_
      · show D.non = _
        unfold planBy
        cases hw : wayBetween s stop with
        | none => rfl
        | some a =>
          cases hb : backTo' wd rows stop o with
          | none => rfl
          | some b =>
            rw [hw, hb] at z
            cases z
      · cases hw : wayBetween s stop with
        | none =>
          rw [hw] at z
          cases z
        | some a =>
          cases hb : backTo' wd rows stop o with
          | none =>
            rw [hw, hb] at z
            cases z
          | some b =>
            have e : planBy wd rows s stop o m = some (headsOf a ++ cheapestIn (orderIn rows stop) m ++ headsOf b) := by
              unfold planBy
              rw [hw, hb]
            have hl := hlen _ e
            rw [e]
            rw [List.length_append, List.length_append] at hl
            have ha : (headsOf a).length = a.length := List.length_map _
            have hb' : (headsOf b).length = b.length := List.length_map _
            exact sd_ret (d := eCs (headsOf a ++ cheapestIn (orderIn rows stop) m ++ headsOf b)) (PD.cast (pd_cat (pd_cat (pd_call (F_heads Z) (hr.mono (by decide)) (pds_cons ((pd_var 5)) pds_nil) ⟨a, rfl, by omega, rfl⟩) (pd_call (F_cheapest_in Z) (hr.mono (by decide)) (pds_cons ((pd_call (F_order_in Z) (hr.mono (by decide)) (pds_cons ((pd_prop (F_Table_rows Z) (hr.mono (by decide)) ((pd_var 0)) ⟨_, _, rfl, by omega, rfl⟩)) (pds_cons ((pd_var 2)) pds_nil)) ⟨wd, rows, stop, rfl, ⟨⟨by omega, ht.each⟩, hg⟩, rfl⟩)) (pds_cons ((pd_var 4)) pds_nil)) ⟨_, _, rfl, ⟨by rw [orderIn_length]; omega, hev⟩, rfl⟩) (by rw [List.length_map, List.length_map]; omega)) (pd_call (F_heads Z) (hr.mono (by decide)) (pds_cons ((pd_var 6)) pds_nil) ⟨b, rfl, by omega, rfl⟩) (by rw [List.length_append, List.length_map, List.length_map, List.length_map]; omega)) (by rw [← List.map_append, ← List.map_append])) rfl
theorem F_need_goal (Z : Fx TB w K mg base Za) : FnR TB P w K mg base "need_goal" ["table", "order", "marks"] 3 (fun ds res => ∃ (wd : Nat) (rows : List (List Int)) (o : Option (List Int)) (m : List Int), ds = [eTable Za wd rows, eWay o, eIs m] ∧ (GoalOk rows o m ∧ Tb wd rows) ∧ res = .non) :=
  FnR.mk' (N := ["table", "order", "marks"]) Z.need_goal ⟨rfl, rfl, rfl, by decide +kernel, rfl, by decide +kernel, by decide +kernel⟩ (by
    rintro ds res ⟨wd, rows, o, m, rfl, h, rfl⟩
    rfl) fun f cdv A outer s0 H0 E hr => by
    rintro ds res ⟨wd, rows, o, m, rfl, h, rfl⟩
    have nd : (["table", "order", "marks"] : List Str).Nodup := by decide +kernel
    obtain ⟨hg, ht⟩ := h
    have hf := ht.few
    cases o with
    | none => exact sd_when (t := false) ((pt_c (pcd_notN (pd_var 1))).cast rfl) (fun z => by cases z) fun _ => sd_expr (pd_call (F_check_marks_of Z) (hr.mono (by decide)) (pds_cons ((pd_lenO (n := rows.length) (F_Table_len Z) (hr.mono (by decide)) Z.bl.len ((pd_var 0)) ⟨_, _, rfl, True.intro, rfl⟩ (by omega))) (pds_cons ((pd_var 2)) pds_nil)) ⟨_, _, rfl, ⟨⟨hg.up, hg.few⟩, hg.inr⟩, rfl⟩) (sd_nil rfl)
    | some x =>
      refine sd_when (t := true) ((pt_c (pcd_notN (pd_var 1))).cast rfl) (fun _ => ?_) fun z => by cases z
      exact sd_expr (pd_call (F_need_order Z) (hr.mono (by decide)) (pds_cons ((pd_lenO (n := rows.length) (F_Table_len Z) (hr.mono (by decide)) Z.bl.len ((pd_var 0)) ⟨_, _, rfl, True.intro, rfl⟩ (by omega))) (pds_cons ((pd_var 1)) pds_nil)) ⟨_, x, rfl, ⟨hg.ord x rfl, by omega⟩, rfl⟩) (sd_nil (sd_expr (pd_call (F_check_marks_of Z) (hr.mono (by decide)) (pds_cons ((pd_lenO (n := rows.length) (F_Table_len Z) (hr.mono (by decide)) Z.bl.len ((pd_var 0)) ⟨_, _, rfl, True.intro, rfl⟩ (by omega))) (pds_cons ((pd_var 2)) pds_nil)) ⟨_, _, rfl, ⟨⟨hg.up, hg.few⟩, hg.inr⟩, rfl⟩) (sd_nil rfl)))
theorem F_plan (Z : Fx TB w K mg base Za) : FnR TB P w K mg base "plan" ["house", "height", "room", "script", "order", "marks"] 14 (fun ds res => ∃ (wd : Nat) (rows : List (List Int)) (cs : List Deed) (s : List Key) (o : Option (List Int)) (m : List Int), ds = [eHouse Za wd rows, .int 9, .int 0, eCs cs, eWay o, eIs m] ∧ (((Tb wd rows ∧ cs.length ≤ 1000) ∧ ScriptOk wd rows ([], [], none) cs) ∧ (runD rows ([], [], none) cs = (s, [], none) ∧ Srt wd s) ∧ GoalOk rows o m ∧ ∀ stop ∈ sorts wd, Even1 (orderIn rows stop) m ∧ ∀ l, planBy wd rows s stop o m = some l → l.length ≤ 1000) ∧ res = ePlan (bestPlan wd rows s o m)) :=
  FnR.mk' (N := ["house", "height", "room", "script", "order", "marks", "spot", "table", "best", "stop", "found"]) Z.plan ⟨rfl, rfl, rfl, by decide +kernel, rfl, by decide +kernel, by decide +kernel⟩ (by
    rintro ds res ⟨wd, rows, cs, s, o, m, rfl, h, rfl⟩
    rfl) fun f cdv A outer s0 H0 E hr => by
    rintro ds res ⟨wd, rows, cs, s, o, m, rfl, h, rfl⟩
    have nd : (["house", "height", "room", "script", "order", "marks", "spot", "table", "best", "stop", "found"] : List Str).Nodup := by decide +kernel
    obtain ⟨hsc, ⟨hrun, hs⟩, hg, hst⟩ := h
    have ht := hsc.1.1
    have hpos := ht.pos
    have hwd := ht.wide
    refine sd_set 6 (d := eSpot Za wd rows (s, [], none)) (PD.cast (pd_call (F_spot_after Z) (hr.mono (by decide)) (pds_cons ((pd_var 0)) (pds_cons ((pd_var 1)) (pds_cons ((pd_var 2)) (pds_cons ((pd_var 3)) pds_nil)))) ⟨wd, rows, cs, rfl, hsc, rfl⟩) (by rw [hrun])) ?_ nd
    refine sd_set 7 ((pd_prop (F_View_table Z) (hr.mono (by decide)) ((pd_fld 0 Z.cls_Spot Z.no_Spot_look ((pd_var 6)) (by decide) rfl rfl)) ⟨_, _, _, rfl, True.intro, rfl⟩)) ?_ nd
    refine sd_expr (pd_call (F_need_goal Z) (hr.mono (by decide)) (pds_cons ((pd_var 7)) (pds_cons ((pd_var 4)) (pds_cons ((pd_var 5)) pds_nil))) ⟨_, _, _, _, rfl, ⟨hg, ht⟩, rfl⟩) ?_
    refine sd_expr (pd_call (F_need_plain Z) (hr.mono (by decide)) (pds_cons ((pd_var 6)) (pds_cons ((pd_var 5)) pds_nil)) ⟨_, _, _, _, rfl, ht, rfl⟩) ?_
    refine sd_set 8 (pd_non) ?_ nd
    refine sd_forS (sorts wd) eKs (fun pre => [.d (eHouse Za wd rows), .d (.int 9), .d (.int 0), .d (eCs cs), .d (eWay o), .d (eIs m), .d (eSpot Za wd rows (s, [], none)), .d (eTable Za wd rows), .d (ePlan (pre.foldl (fun best stop => better best (planBy wd rows s stop o m)) none)), .no, .no]) (pid_list (pd_call (F_all_sortings Z) (hr.mono (by decide)) (pds_cons ((pd_prop (F_Table_width Z) (hr.mono (by decide)) ((pd_var 7)) ⟨_, _, rfl, True.intro, rfl⟩)) pds_nil) ⟨wd, rfl, by omega, rfl⟩)) rfl (fun pre a post e => ⟨_, _, (pgd_name 9 nd), ?_⟩) (sd_ret (pd_var 8) rfl)
    have ha : a ∈ sorts wd := by rw [e]; simp
    have hag := sorts_srt hpos hwd a ha
    refine sd_set 10 ((pd_call (F_plan_by Z) (hr.mono (by decide)) (pds_cons ((pd_var 7)) (pds_cons ((pd_prop (F_View_sorting Z) (hr.mono (by decide)) ((pd_fld 0 Z.cls_Spot Z.no_Spot_look ((pd_var 6)) (by decide) rfl rfl)) ⟨_, _, _, rfl, True.intro, rfl⟩)) (pds_cons ((pd_var 9)) (pds_cons ((pd_var 4)) (pds_cons ((pd_var 5)) pds_nil))))) ⟨wd, rows, s, a, o, m, rfl, ⟨⟨ht, hs, hag⟩, hst a ha⟩, rfl⟩)) ?_ nd
    obtain ⟨b0, hb0⟩ : ∃ b0, b0 = pre.foldl (fun best stop => better best (planBy wd rows s stop o m)) none := ⟨_, rfl⟩
    have hfold : (pre ++ [a]).foldl (fun best stop => better best (planBy wd rows s stop o m)) none = better b0 (planBy wd rows s a o m) := by
      rw [List.foldl_append, hb0]
      rfl
    show SD _ _ _ _ fun o' => match o' with | .nx q => Weak q _ | .ct q => Weak q _ | .bk q => _ | .ret d m => _
    rw [hfold, ← hb0]
    cases hp : planBy wd rows s a o m with
    | none => exact sd_when (t := false) ((pw_t (pwd_and (q := false) (pt_c (pcd_notN (pd_var 10))) fun z => by cases z)).cast rfl) (fun z => by cases z) fun _ => sd_nil (by repeat (first | exact Weak.nil | (refine Weak.cons (by first | exact WkS.refl | exact WkS.drop | exact WkS.fz | exact WkS.of_eq (by simp [better])) ?_)))
    | some f =>
      cases b0 with
      | none =>
        refine sd_when (t := true) ((pw_t (pwd_and (pt_c (pcd_notN (pd_var 10))) fun _ => pwd_and1 (pw_t (pwd_or (q := false) (pt_c (pcd_isN (pd_var 8))) fun z => by cases z)))).cast rfl) (fun _ => ?_) fun z => by cases z
        refine sd_set 8 ((pd_var 10)) ?_ nd
        exact sd_nil (sd_nil (by repeat (first | exact Weak.nil | (refine Weak.cons (by first | exact WkS.refl | exact WkS.drop | exact WkS.fz | exact WkS.of_eq (by simp [better])) ?_))))
      | some b =>
        refine sd_when (t := decide (f.length < b.length)) ((pw_t (pwd_and (pt_c (pcd_notN (pd_var 10))) fun _ => pwd_and1 (pw_t (pwd_or (pt_c (pcd_isN (pd_var 8))) fun _ => pwd_or1 (pt_c (pcd_lt (pd_len Z.bl.len (ds := f.map eC) ((pd_var 10).cast rfl) (.inl rfl)) (pd_len Z.bl.len (ds := b.map eC) ((pd_var 8).cast rfl) (.inl rfl)))))))).cast (by simp [isNon, eO])) (fun z => ?_) fun z => ?_
        · have z := of_decide_eq_true z
          refine sd_set 8 ((pd_var 10)) ?_ nd
          refine sd_nil (sd_nil ?_)
          show Weak _ _
          rw [show better (some b) (some f) = some f from if_pos z]
          exact (by repeat (first | exact Weak.nil | (refine Weak.cons (by first | exact WkS.refl | exact WkS.drop | exact WkS.fz | exact WkS.of_eq (by simp )) ?_)))
        · have z := of_decide_eq_false z
          refine sd_nil ?_
          show Weak _ _
          rw [show better (some b) (some f) = some b from if_neg z]
          exact (by repeat (first | exact Weak.nil | (refine Weak.cons (by first | exact WkS.refl | exact WkS.drop | exact WkS.fz | exact WkS.of_eq (by simp )) ?_)))
theorem F_judge_plan (Z : Fx TB w K mg base Za) : FnR TB P w K mg base "judge_plan" ["house", "height", "room", "script", "order", "marks", "told"] 14 (fun ds res => ∃ (wd : Nat) (rows : List (List Int)) (cs told : List Deed) (o : Option (List Int)) (m : List Int) (an : Option Int) (s : List Key), ds = [eHouse Za wd rows, .int 9, .int 0, eCs cs, eWay o, eIs m, eCs told] ∧ ((((Tb wd rows ∧ cs.length ≤ 1000) ∧ ScriptOk wd rows ([], [], none) cs) ∧ (cs.length + told.length ≤ 1000 ∧ ScriptOk wd rows ([], [], none) (cs ++ told))) ∧ GoalOk rows o m ∧ (runD rows ([], [], none) (cs ++ told) = (s, m, an) ∧ Srt wd s) ∧ ∀ x, o = some x → orderIn rows s = x) ∧ res = .int (told.length : Nat)) :=
  FnR.mk' (N := ["house", "height", "room", "script", "order", "marks", "told", "moment", "table", "later", "spot"]) Z.judge_plan ⟨rfl, rfl, rfl, by decide +kernel, rfl, by decide +kernel, by decide +kernel⟩ (by
    rintro ds res ⟨wd, rows, cs, told, o, m, an, s, rfl, h, rfl⟩
    rfl) fun f cdv A outer s0 H0 E hr => by
    rintro ds res ⟨wd, rows, cs, told, o, m, an, s, rfl, h, rfl⟩
    have nd : (["house", "height", "room", "script", "order", "marks", "told", "moment", "table", "later", "spot"] : List Str).Nodup := by decide +kernel
    obtain ⟨⟨h1, h2, h3⟩, hg, ⟨hrun, hs⟩, ho⟩ := h
    have ht := h1.1.1
    have hf := ht.few
    have hul := hr.units
    refine sd_set 7 ((pd_call (F_last_moment Z) (hr.mono (by decide)) (pds_cons ((pd_var 0)) (pds_cons ((pd_var 1)) (pds_cons ((pd_var 2)) (pds_cons ((pd_var 3)) pds_nil)))) ⟨wd, rows, cs, rfl, h1, rfl⟩)) ?_ nd
    refine sd_set 8 ((pd_prop (F_View_table Z) (hr.mono (by decide)) ((pd_fld 0 Z.cls_Spot Z.no_Spot_look ((pd_meth0 (F_Moment_spot Z) (hr.mono (by decide)) ((pd_var 7)) ⟨_, _, _, rfl, True.intro, rfl⟩ (by decide))) (by decide) rfl rfl)) ⟨_, _, _, rfl, True.intro, rfl⟩)) ?_ nd
    refine sd_expr (pd_call (F_need_goal Z) (hr.mono (by decide)) (pds_cons ((pd_var 8)) (pds_cons ((pd_var 4)) (pds_cons ((pd_var 5)) pds_nil))) ⟨_, _, _, _, rfl, ⟨hg, ht⟩, rfl⟩) ?_
    refine sd_set 9 (d := eMom Za wd rows (s, m, an)) (PD.cast (pd_call (F_last_or_none Z) (hr.mono (by decide)) (pds_cons ((pd_var 0)) (pds_cons ((pd_var 1)) (pds_cons ((pd_var 2)) (pds_cons ((pd_cat (pd_var 3) (pd_var 6) (by rw [List.length_map, List.length_map]; omega)).cast (show _ = eCs (cs ++ told) by rw [← List.map_append])) pds_nil)))) ⟨wd, rows, cs ++ told, rfl, ⟨⟨ht, by rw [List.length_append]; omega⟩, h3⟩, rfl⟩) (by rw [hrun])) ?_ nd
    refine sd_check ((pt_c (pcd_isN (pd_var 9))).cast rfl) ?_
    refine sd_set 10 (pd_dget 0 (ks := [Sum.inr "all"]) (hu_of hr) (pd_fld 1 Z.cls_Moment Z.no_Moment_spots ((pd_var 9)) (by decide) rfl rfl) (pd_meth0 (F_Moment_last Z) (hr.mono (by decide)) ((pd_var 7)) ⟨_, _, _, rfl, True.intro, rfl⟩ (by decide)) (.inr ⟨_, rfl, rfl⟩) (by simp) rfl rfl) ?_ nd
    cases o with
    | none =>
      refine sd_check ((pw_t (pwd_or (pt_c (pcd_neE pn_eIs hul (x := m) (y := m) (pd_fld 1 Z.cls_Spot Z.no_Spot_chosen ((pd_var 10)) (by decide) rfl rfl) (pd_var 5))) fun _ => pwd_or1 (pw_t (pwd_and (q := false) (pt_c (pcd_notN (pd_var 4))) fun z => by cases z)))).cast (by simp [isNon, eO])) ?_
      exact sd_ret ((pd_len Z.bl.len (pd_var 6) (.inl rfl)).cast (by rw [List.length_map])) rfl
    | some x =>
      have hx := ho x rfl
      refine sd_check ((pw_t (pwd_or (pt_c (pcd_neE pn_eIs hul (x := m) (y := m) (pd_fld 1 Z.cls_Spot Z.no_Spot_chosen ((pd_var 10)) (by decide) rfl rfl) (pd_var 5))) fun _ => pwd_or1 (pw_t (pwd_and (pt_c (pcd_notN (pd_var 4))) fun _ => pwd_and1 (pt_c (pcd_neE pn_eIs hul (x := orderIn rows s) (y := x) (pd_call (F_order_in Z) (hr.mono (by decide)) (pds_cons ((pd_prop (F_Table_rows Z) (hr.mono (by decide)) ((pd_var 8)) ⟨_, _, rfl, by omega, rfl⟩)) (pds_cons ((pd_prop (F_View_sorting Z) (hr.mono (by decide)) ((pd_fld 0 Z.cls_Spot Z.no_Spot_look ((pd_var 10)) (by decide) rfl rfl)) ⟨_, _, _, rfl, True.intro, rfl⟩)) pds_nil)) ⟨wd, rows, s, rfl, ⟨⟨by omega, ht.each⟩, hs⟩, rfl⟩) ((pd_var 4).cast rfl))))))).cast (by simp [hx])) ?_
      exact sd_ret ((pd_len Z.bl.len (pd_var 6) (.inl rfl)).cast (by rw [List.length_map])) rfl
end
end Lw
set_option Elab.async false
set_option linter.all false
set_option maxRecDepth 100000
set_option maxHeartbeats 4000000
/-! # the deck: a list of ints that the defs hand on and change -/
namespace Lw
open PySem PySem.Spec PyProof.Rows L2
abbrev VI (k : List Int) : HO := .lst (k.map V.int)
theorem VI_nt (k : List Int) : ∀ ps, VI k ≠ .tbl ps := fun _ e => by cases e
/-- all stands but the deck at p, which holds k now -/
def LeK (p : Addr) (k : List Int) (w w' : Wd) : Prop := Le ⟨w.F, upd w.H p (VI k)⟩ w'
section
variable {p : Addr} {k k1 k2 : List Int} {w w1 w2 : Wd}
theorem upd_self {H : Hp} {o : HO} (h : H p = some o) : upd H p o = H := funext fun x => by
  by_cases e : x = p
  · subst e
    rw [upd_same, h]
  · rw [upd_ne e]
theorem LeK.of_le (h : w.H p = some (VI k)) (l : Le w w1) : LeK p k w w1 := by
  show Le ⟨w.F, upd w.H p (VI k)⟩ w1
  rw [upd_self h]
  exact l
theorem LeK.at_ (a : LeK p k w w1) : w1.H p = some (VI k) := Le.h a p _ upd_same (VI_nt k)
theorem LeK.fr (a : LeK p k w w1) : w1.F p = w.F p := Le.n a p _ upd_same (VI_nt k)
theorem LeK.f (a : LeK p k w w1) : FLe w.F w1.F := by
  have a : Le ⟨w.F, upd w.H p (VI k)⟩ w1 := a
  exact a.f
theorem LeK.right (a : LeK p k w w1) (b : Le w1 w2) : LeK p k w w2 := Le.trans a b
theorem LeK.left {o : HO} (hp : w.H p = some o) (ho : ∀ ps, o ≠ .tbl ps) (a : Le w w1) (b : LeK p k w1 w2) : LeK p k w w2 where
  f := a.f.trans b.f
  h := fun x u e n => by
    have e : upd w.H p (VI k) x = some u := e
    by_cases z : x = p
    · subst z
      rw [upd_same] at e
      cases e
      exact b.at_
    · rw [upd_ne z] at e
      exact Le.h b x u (show upd w1.H p (VI k) x = some u by rw [upd_ne z]; exact a.h x u e n) n
  n := fun x u e n => by
    have e : upd w.H p (VI k) x = some u := e
    by_cases z : x = p
    · subst z
      exact b.fr.trans (a.n x o hp ho)
    · rw [upd_ne z] at e
      exact (Le.n b x u (show upd w1.H p (VI k) x = some u by rw [upd_ne z]; exact a.h x u e n) n).trans (a.n x u e n)
theorem LeK.trans (a : LeK p k1 w w1) (b : LeK p k2 w1 w2) : LeK p k2 w w2 where
  f := LeK.f a |>.trans (LeK.f b)
  h := fun x u e n => by
    have e : upd w.H p (VI k2) x = some u := e
    by_cases z : x = p
    · subst z
      rw [upd_same] at e
      cases e
      exact b.at_
    · rw [upd_ne z] at e
      exact Le.h b x u (show upd w1.H p (VI k2) x = some u by rw [upd_ne z]; exact Le.h a x u (show upd w.H p (VI k1) x = some u by rw [upd_ne z]; exact e) n) n
  n := fun x u e n => by
    have e : upd w.H p (VI k2) x = some u := e
    by_cases z : x = p
    · subst z
      exact b.fr.trans a.fr
    · rw [upd_ne z] at e
      have e1 : upd w.H p (VI k1) x = some u := by rw [upd_ne z]; exact e
      exact (Le.n b x u (show upd w1.H p (VI k2) x = some u by rw [upd_ne z]; exact Le.h a x u e1 n) n).trans (Le.n a x u e1 n)
end
section
variable {K : PySem.W.Frag} {TB : Tbs} {w0 w w' : Wd} {σ : L2.St} {env : List Sl} {i : Nat} {p : Addr} {k k' : List Int}
theorem Ok.qAt (o : Ok K TB w0 w σ env) (hi : env[i]? = some (Sl.o (.q p k))) : σ[i]? = some (some (V.ref p)) ∧ w.H p = some (VI k) ∧ w.F p = none ∧ ∀ u, w0.H p = some u → ∃ ps, u = .tbl ps := by
  obtain ⟨p', h, s, hp, hf, h0, r⟩ := o.own i _ hi
  cases h <;> first | exact r.elim | skip
  obtain ⟨rfl, rfl⟩ := r
  exact ⟨s, hp, hf, h0⟩
theorem Ok.step (o : Ok K TB w0 w σ env) (hi : env[i]? = some (Sl.o (.q p k))) (g : Good TB w') (l : LeK p k' w w') : Ok K TB w0 w' σ (env.set i (Sl.o (.q p k'))) := by
  obtain ⟨s, hp, hf, h0⟩ := o.qAt hi
  exact (o.chg hi s (show OOk K w.F p (.lst (k'.map V.int)) (.q p k') from ⟨rfl, rfl⟩)).mono g l
end
/-- an expression that may draw: what it gives, and the deck after it -/
def PK (TB : Tbs) (X : Cx) (e : Expr) (env : List Sl) (p : Addr) (R : D → List Int → Prop) : Prop := ∀ (w0 w : Wd) (σ : L2.St) (Q : VK), Ok X.K TB w0 w σ env →
  (∀ v w' d k', Good TB w' → LeK p k' w w' → Rep X.K w'.F v d → R d k' → Q v w'.H) → RunE X e σ w.H Q
def PTk (TB : Tbs) (X : Cx) (e : Expr) (env : List Sl) (p : Addr) (R : Bool → List Int → Prop) : Prop := ∀ (w0 w : Wd) (σ : L2.St) (Q : Bool → Hp → Prop), Ok X.K TB w0 w σ env →
  (∀ w' b k', Good TB w' → LeK p k' w w' → R b k' → Q b w'.H) → RunT X e σ w.H Q
def PWk (TB : Tbs) (X : Cx) (e : Expr) (env : List Sl) (p : Addr) (R : Bool → List Int → Prop) : Prop := ∀ (w0 w : Wd) (σ : L2.St) (Q : Bool → Hp → Prop), Ok X.K TB w0 w σ env →
  (∀ w' b k', Good TB w' → LeK p k' w w' → R b k' → Q b w'.H) → RunW X e σ w.H Q
def PKs (TB : Tbs) (X : Cx) (es : List Expr) (env : List Sl) (p : Addr) (R : List D → List Int → Prop) : Prop := ∀ (w0 w : Wd) (σ : L2.St) (Q : List V → Hp → Prop), Ok X.K TB w0 w σ env →
  (∀ vs w' ds k', Good TB w' → LeK p k' w w' → Reps X.K w'.F vs ds → R ds k' → Q vs w'.H) → RunA X es σ w.H Q
section
variable {TB : Tbs} {X : Cx} {env : List Sl} {a b c e : Expr} {es : List Expr} {x y : D} {ds xs : List D} {pos ps : Pos} {i : Nat} {p : Addr} {k : List Int} {R R' : D → List Int → Prop} {rest body els : List Stmt} {RO : Out → Prop}
theorem pk_pd (hi : env[i]? = some (Sl.o (.q p k))) (h : PD TB X e env x) (hR : R x k) : PK TB X e env p R := fun w0 w σ Q o q =>
  h w0 w σ Q o fun v w' g l r => q v w' x k g (LeK.of_le (o.qAt hi).2.1 l) r hR
theorem PK.imp (h : PK TB X e env p R) (q : ∀ d k', R d k' → R' d k') : PK TB X e env p R' := fun w0 w σ Q o qq => h w0 w σ Q o fun v w' d k' g l r hR => qq v w' d k' g l r (q d k' hR)
theorem pks_nil (hi : env[i]? = some (Sl.o (.q p k))) {R : List D → List Int → Prop} (hR : R [] k) : PKs TB X [] env p R := fun w0 w σ Q o q =>
  pds_nil w0 w σ Q o fun vs w' g l r => q vs w' [] k g (LeK.of_le (o.qAt hi).2.1 l) r hR
theorem pks_cons (hi : env[i]? = some (Sl.o (.q p k))) {Rs : List D → List Int → Prop} (ha : PK TB X a env p R) (hs : ∀ d k1, R d k1 → PKs TB X es (env.set i (Sl.o (.q p k1))) p fun ds k' => Rs (d :: ds) k')
    (hst : starEach (a :: es) X.env = (false, eval a X.env) :: starEach es X.env := by rfl) : PKs TB X (a :: es) env p Rs := fun w0 w σ Q o q =>
  runA (pa_cons (pe_w a) (pa_w es) hst) (ha w0 w σ _ o fun v w1 d k1 g1 l1 r1 h1 => hs d k1 h1 w0 w1 σ _ (o.step hi g1 l1) fun vs w2 ds k2 g2 l2 r2 h2 => q _ w2 (d :: ds) k2 g2 (l1.trans l2) (.cons (r1.mono l2.f) r2) h2)
theorem pks_pds (hi : env[i]? = some (Sl.o (.q p k))) {Rs : List D → List Int → Prop} (h : PDs TB X es env ds) (hR : Rs ds k) : PKs TB X es env p Rs := fun w0 w σ Q o q =>
  h w0 w σ Q o fun v w' g l r => q v w' ds k g (LeK.of_le (o.qAt hi).2.1 l) r hR
/-- an int operator: left draws -/
theorem pk_opL {op : Operator} {C : Int → Int → Prop} {f : Int → Int → Int} (ho : OpR X (binaryOp op) (rI C fun i j => .int (f i j))) {j : Int} (hi : env[i]? = some (Sl.o (.q p k))) (ha : PK TB X a env p R)
    (hb : ∀ d k1, R d k1 → PD TB X b (env.set i (Sl.o (.q p k1))) (.int j)) (h : ∀ d k1, R d k1 → ∃ m, d = .int m ∧ C m j ∧ R' (.int (f m j)) k1) : PK TB X (.BinOp a op b pos) env p R' := fun w0 w σ Q o q =>
  runE (pe_op ho (pe_w a) (pe_w b)) (ha w0 w σ _ o fun v w1 d k1 g1 l1 r1 h1 => by
    obtain ⟨m, rfl, hC, hR⟩ := h d k1 h1
    refine hb _ k1 h1 w0 w1 σ _ (o.step hi g1 l1) fun u w2 g2 l2 r2 => ?_
    cases r1; cases r2
    exact ⟨m, j, rfl, rfl, hC, q _ w2 _ k1 g2 (l1.right l2) .int hR⟩)
/-- .. right draws -/
theorem pk_opR {op : Operator} {C : Int → Int → Prop} {f : Int → Int → Int} (ho : OpR X (binaryOp op) (rI C fun i j => .int (f i j))) {m : Int} (hi : env[i]? = some (Sl.o (.q p k))) (ha : PD TB X a env (.int m))
    (hb : PK TB X b env p R) (h : ∀ d k1, R d k1 → ∃ j, d = .int j ∧ C m j ∧ R' (.int (f m j)) k1) : PK TB X (.BinOp a op b pos) env p R' := fun w0 w σ Q o q =>
  runE (pe_op ho (pe_w a) (pe_w b)) (ha w0 w σ _ o fun v w1 g1 l1 r1 => by
    have hp := (o.qAt hi).2.1
    refine hb w0 w1 σ _ (o.mono g1 l1) fun u w2 d k1 g2 l2 r2 h1 => ?_
    obtain ⟨j, rfl, hC, hR⟩ := h d k1 h1
    cases r1; cases r2
    exact ⟨m, j, rfl, rfl, hC, q _ w2 _ k1 g2 (LeK.left hp (VI_nt k) l1 l2) .int hR⟩)
/-- draw == j -/
theorem ptk_eqI {R : Bool → List Int → Prop} {RI : D → List Int → Prop} {j : Int} (hi : env[i]? = some (Sl.o (.q p k))) (ha : PK TB X a env p RI) (hb : ∀ d k1, RI d k1 → PD TB X b (env.set i (Sl.o (.q p k1))) (.int j))
    (h : ∀ d k1, RI d k1 → ∃ m, d = .int m ∧ R (decide (m = j)) k1) (hm : behindInMarks .Eq b = false := by first | exact nobehind _ (by decide) (by decide) | rfl) : PTk TB X (.Compare a [.Eq] [b] pos) env p R := fun w0 w σ Q o q =>
  runT (pt_cmp (pc_op op_eq (pe_w a) (pe_w b)) hm) (ha w0 w σ _ o fun v w1 d k1 g1 l1 r1 h1 => by
    obtain ⟨m, rfl, hR⟩ := h d k1 h1
    refine hb _ k1 h1 w0 w1 σ _ (o.step hi g1 l1) fun u w2 g2 l2 r2 => ?_
    cases r1; cases r2
    refine ⟨rfl, ?_⟩
    rw [dV_int]
    exact ⟨_, rfl, q w2 _ k1 g2 (l1.right l2) hR⟩)
theorem ptk_w {R : Bool → List Int → Prop} (h : PWk TB X e env p R) : PTk TB X e env p R := fun w0 w σ Q o q => runT (PW.pt (pw_w e)) (h w0 w σ Q o q)
theorem pwk_and1 {R : Bool → List Int → Prop} (h : PTk TB X a env p R) : PWk TB X (.BoolOp .And [a] pos) env p R := fun w0 w σ Q o q => runW (pw_and1 (pt_w a)) (h w0 w σ Q o q)
theorem pwk_and {R : Bool → List Int → Prop} {t : Bool} {bs : List Expr} (hi : env[i]? = some (Sl.o (.q p k))) (h : PTd TB X a env t) (h2 : t = true → PWk TB X (.BoolOp .And (b :: bs) pos) env p R) (h3 : t = false → R false k) : PWk TB X (.BoolOp .And (a :: b :: bs) pos) env p R := fun w0 w σ Q o q =>
  runW (pw_and (pt_w a) (pw_w _)) (h w0 w σ _ o fun w1 g1 l1 => by
    have hp := (o.qAt hi).2.1
    cases t with
    | true => exact iteT (h2 rfl w0 w1 σ Q (o.mono g1 l1) fun w2 b2 k2 g2 l2 r2 => q w2 b2 k2 g2 (LeK.left hp (VI_nt k) l1 l2) r2)
    | false => exact iteF (q w1 false k g1 (LeK.of_le hp l1) (h3 rfl)))
/-- x[draw] -/
theorem pk_ix (hi : env[i]? = some (Sl.o (.q p k))) (ha : PD TB X a env x) (hb : PK TB X b env p R) (hx : x = .lst ds ∨ x = .tup ds) (h : ∀ d k1, R d k1 → ∃ m y, d = .int m ∧ atI ds m = some y ∧ R' y k1) (hs : PlainIx b := by exact fun _ _ => rfl) : PK TB X (.Subscript a b pos) env p R' := fun w0 w σ Q o q =>
  runE (pe_ix (ix_list.or ix_tup) (pe_w a) (pe_w b) hs) (ha w0 w σ _ o fun v w1 g1 l1 r1 => by
    have hp := (o.qAt hi).2.1
    refine hb w0 w1 σ _ (o.mono g1 l1) fun u w2 d k1 g2 l2 r2 h1 => ?_
    obtain ⟨m, y, rfl, ha', hR⟩ := h d k1 h1
    cases r2
    have l12 := LeK.left hp (VI_nt k) l1 l2
    rcases hx with rfl | rfl
    · cases r1 with
      | lst h1 h2 =>
        obtain ⟨v, e, r⟩ := reps_at (h2.mono l2.f) ha'
        exact .inl ⟨_, _, m, v, rfl, rfl, .inl (.inl (g2.sub _ _ (l2.f _ _ h1))), e, q v w2 y k1 g2 l12 r hR⟩
    · cases r1 with
      | tup h1 h2 =>
        obtain ⟨v, e, r⟩ := reps_at (h2.mono l2.f) ha'
        exact .inr ⟨_, _, m, v, rfl, rfl, g2.sub.sqt (l2.f.sqt h1), e, q v w2 y k1 g2 l12 r hR⟩)
/-- a list that draws, indexed by a draw -/
theorem pk_ixK (hi : env[i]? = some (Sl.o (.q p k))) {Ra : D → List Int → Prop} (ha : PK TB X a env p Ra) (hb : ∀ d k1, Ra d k1 → ∃ ds, d = .lst ds ∧ PK TB X b (env.set i (Sl.o (.q p k1))) p fun y k' => ∃ m z, y = .int m ∧ atI ds m = some z ∧ R' z k') (hs : PlainIx b := by exact fun _ _ => rfl) : PK TB X (.Subscript a b pos) env p R' := fun w0 w σ Q o q =>
  runE (pe_ix (ix_list.or ix_tup) (pe_w a) (pe_w b) hs) (ha w0 w σ _ o fun v w1 d k1 g1 l1 r1 h1 => by
    obtain ⟨ds, rfl, hb⟩ := hb d k1 h1
    refine hb w0 w1 σ _ (o.step hi g1 l1) fun u w2 y k2 g2 l2 r2 h2 => ?_
    obtain ⟨m, z, rfl, ha', hR⟩ := h2
    cases r2
    cases r1 with
    | lst h1 h2 =>
      obtain ⟨v, e, r⟩ := reps_at (h2.mono l2.f) ha'
      exact .inl ⟨_, _, m, v, rfl, rfl, .inl (.inl (g2.sub _ _ (l2.f _ _ h1))), e, q v w2 z k2 g2 (l1.trans l2) r hR⟩)
/-- x[draw], x a list of one's own -/
theorem pk_ixo (j : Nat) {n : Str} {pn : Pos} (hi : env[i]? = some (Sl.o (.q p k))) (hj : env[j]? = some (Sl.o (.l ds))) (hb : PK TB X b env p R) (h : ∀ d k1, R d k1 → ∃ m y, d = .int m ∧ atI ds m = some y ∧ R' y k1) (hN : X.N[j]? = some n := by rfl) (hv : Vis X.env.scope n := by first | exact Or.inl rfl | exact Or.inr (Or.inl rfl) | exact Or.inr (Or.inr rfl))
    (hd : (n == ("__debug__" : Str)) = false := by decide) (hcd : (n == ("__classdict__" : Str)) = false := by decide) (hs : PlainIx b := by exact fun _ _ => rfl) : PK TB X (.Subscript (.Name n pn) b pos) env p R' := fun w0 w σ Q o q => by
  obtain ⟨p2, h0, s, hp, hf, _, r⟩ := o.own j _ hj
  cases h0 <;> first | exact r.elim | skip
  have hq := o.qAt hi
  have ne : p2 ≠ p := fun z => by
    subst z
    have hij : i ≠ j := fun z => by
      subst z
      rw [hi] at hj
      cases hj
    exact o.sep i j _ _ p2 hij hi hj hq.1 s
  refine runE (pe_ix ix_list (pe_var hN hv hd hcd) (pe_w b) hs) ⟨.ref p2, s, hb w0 w σ _ o fun u w2 d k1 g2 l2 r2 h2 => ?_⟩
  obtain ⟨m, y, rfl, ha', hR⟩ := h d k1 h2
  cases r2
  obtain ⟨v, e, r'⟩ := reps_at (show Reps X.K w.F _ ds from r) ha'
  have hp2 : w2.H p2 = some (.lst _) := Le.h l2 p2 _ (show upd w.H p (VI k1) p2 = _ by rw [upd_ne ne]; exact hp) fun _ z => by cases z
  exact ⟨_, _, m, v, rfl, rfl, .inl (.inl hp2), e, q v w2 y k1 g2 l2 (r'.mono l2.f) hR⟩
theorem newLk {w : Wd} {vs : List V} {Q : VK} (g : Good TB w) (r : Reps X.K w.F vs ds) (q : ∀ v w', Good TB w' → Le w w' → Rep X.K w'.F v (.lst ds) → Q v w'.H) : ∀ p, w.H p = none → Q (.ref p) (upd w.H p (.lst vs)) := newL g r q
theorem pk_lst {Rs : List D → List Int → Prop} (h : PKs TB X es env p Rs) (hR : ∀ ds k', Rs ds k' → ds.length ≤ 1000 ∧ R (.lst ds) k') : PK TB X (.List es pos) env p R := fun w0 w σ Q o q =>
  runE (pe_lst (pa_w es)) (h w0 w σ _ o fun vs w1 ds k1 g1 l1 r1 h1 => by
    obtain ⟨hl, hr⟩ := hR ds k1 h1
    exact ⟨size_small (by rw [r1.length]; omega), newL g1 r1 fun v w' g' l' r' => q v w' _ k1 g' (l1.right l') r' hr⟩)
theorem pk_tup {j : Nat} {Rs : List D → List Int → Prop} (h : PKs TB X es env p Rs) (hR : ∀ ds k', Rs ds k' → ds.length ≤ 1000 ∧ R (.tup ds) k') : PK TB X (.Tuple es j pos) env p R := fun w0 w σ Q o q =>
  runE (pe_tup (pa_w es)) (h w0 w σ _ o fun vs w1 ds k1 g1 l1 r1 h1 => by
    obtain ⟨hl, hr⟩ := hR ds k1 h1
    exact ⟨size_small (by rw [r1.length]; omega), newT g1 r1 fun v w' g' l' r' => q v w' _ k1 g' (l1.right l') r' hr⟩)
/-- list(e) -/
theorem pk_list (hm : X.mg "list" = none) (ha : PK TB X a env p R) (h : ∀ d k', R d k' → ∃ ds, d = .lst ds ∧ R' (.lst ds) k') (hg : Gl X "list" := by rfl) (he : starEach [a] X.env = (false, eval a X.env) :: starEach [] X.env := by rfl) (hpl : (backTo pos (starEach [] X.env)).any (·.1) = false := by rfl) :
    PK TB X (.Call (.Name "list" ps) [a] [] pos) env p R' := fun w0 w σ Q o q =>
  runE (pe_callTy call_list_of hg hm (by decide +kernel) (pa_cons (pe_w a) pa_nil he) (by decide) (by decide) he hpl) (ha w0 w σ _ o fun v w1 d k1 g1 l1 r1 h1 => by
    obtain ⟨ds, rfl, hR⟩ := h d k1 h1
    cases r1 with
    | lst h1 h2 => exact ⟨_, _, rfl, .inl (.inl (.inl (g1.sub _ _ h1))), newL g1 h2 fun v w' g' l' r' => q v w' _ k1 g' (l1.right l') r' hR⟩)
/-- a def of data called with arguments that draw -/
theorem pk_fn {n : Str} {pss : List Str} {kk : Nat} {φ : List D → D → Prop} {Rs : List D → List Int → Prop} (G : FnR TB X.prog X.w X.K X.mg X.base n pss kk φ) (hr : Room kk X.A) (ha : PKs TB X (e :: es) env p Rs) (h : ∀ ds k', Rs ds k' → ∃ y, φ ds y ∧ R y k') (hg : Gl X n := by rfl)
    (hdb : (n == ("__debug__" : Str)) = false := by decide) (he : starEach (e :: es) X.env = (false, eval e X.env) :: starEach es X.env := by rfl) (hpl : (backTo pos (starEach es X.env)).any (·.1) = false := by rfl) :
    PK TB X (.Call (.Name n ps) (e :: es) [] pos) env p R := fun w0 w σ Q o q => by
  obtain ⟨f, fd, hm, kp, hb, F⟩ := G.ex
  refine runE (pe_call F hr hg hm kp hb .nil pass0 (pa_w _) hdb he hpl) (ha w0 w σ _ o fun vs w1 ds k1 g1 l1 r1 h1 => ?_)
  obtain ⟨y, hy, hR⟩ := h ds k1 h1
  show spR TB X.K φ (vs ++ []) w1.H Q E0
  rw [List.append_nil]
  exact spR_of g1 r1 hy fun v w' g' l' r' => q v w' y k1 g' (l1.right l') r' hR
end
end Lw
set_option Elab.async false
set_option linter.all false
set_option maxRecDepth 100000
set_option maxHeartbeats 4000000
/-! # the deck: defs that draw, statements, loops -/
namespace Lw
open PySem PySem.Spec PyProof.Rows L2
/-- sound decks: at most n draws from the seed so far -/
def DkOk (n : Nat) (k : List Int) : Prop := ∃ a b c : Int, k = [a, b, c] ∧ 0 ≤ a ∧ (0 ≤ b ∧ b < 10 ^ 40) ∧ 0 ≤ c ∧ c ≤ n
theorem DkOk.mono {m n : Nat} {k : List Int} (h : DkOk m k) (l : m ≤ n) : DkOk n k := by
  obtain ⟨a, b, c, e, h1, h2, h3, h4⟩ := h
  exact ⟨a, b, c, e, h1, h2, h3, by omega⟩
def spK (TB : Tbs) (K : PySem.W.Frag) (m : Nat) (pre : List D → Prop) (φ : List D → D → Prop) : Sp := fun vs H Q _ =>
  ∃ (F : Hp) (p : Addr) (us : List V) (ds : List D) (k : List Int) (n : Nat), vs = .ref p :: us ∧ Good TB ⟨F, H⟩ ∧ F p = none ∧ H p = some (VI k) ∧ DkOk n k ∧ n + m ≤ 400 ∧ Reps K F us ds ∧ pre ds ∧
    ∀ v w' k' r, DkOk (n + m) k' → φ ds r → Good TB w' → LeK p k' ⟨F, H⟩ w' → Rep K w'.F v r → Q v w'.H
structure FnK (TB : Tbs) (P : Program) (w : World) (K : PySem.W.Frag) (mg : Str → Option Value) (base : Heap) (n : Str) (ps : List Str) (kk m : Nat) (pre : List D → Prop) (φ : List D → D → Prop) : Prop where
  ex : ∃ (f : Addr) (fd : FuncData), mg n = some (.ref f) ∧ PySem.W.keepIn K (.ref f) = true ∧ Binds K fd ps [] ∧ FnOk P w K mg base CX0 kk f fd ps (spK TB K m pre φ)
/-- the deck at p at the end of a def -/
def RetK (p : Addr) (R : D → List Int → Prop) : Out → Prop
  | .ret d env => ∃ k', env[0]? = some (Sl.o (.q p k')) ∧ R d k'
  | _ => False
theorem deck_ok {K : PySem.W.Frag} {TB : Tbs} {F H : Hp} {N : List Str} {p : Addr} {k : List Int} {us : List V} {ds : List D} (g : Good TB ⟨F, H⟩) (hf : F p = none) (hp : H p = some (VI k)) (rs : Reps K F us ds) :
    Ok K TB ⟨F, fun a => if a = p then none else H a⟩ ⟨F, H⟩ (L2.start N (.ref p :: us)) (Sl.o (.q p k) :: (ds.map Sl.d ++ List.replicate (N.length - (ds.length + 1)) Sl.no)) := by
  have hlen := rs.length
  have only : ∀ (i : Nat) (z : OO), (Sl.o (.q p k) :: (ds.map Sl.d ++ List.replicate (N.length - (ds.length + 1)) Sl.no))[i]? = some (Sl.o z) → i = 0 ∧ z = .q p k := fun i z e => by
    cases i with
    | zero =>
      rw [List.getElem?_cons_zero] at e
      cases e
      exact ⟨rfl, rfl⟩
    | succ i =>
      rw [List.getElem?_cons_succ] at e
      by_cases hi : i < ds.length
      · rw [List.getElem?_append_left (by rw [List.length_map]; exact hi), List.getElem?_map, List.getElem?_eq_getElem hi] at e
        cases e
      · rw [List.getElem?_append_right (by rw [List.length_map]; omega), List.getElem?_replicate] at e
        split at e <;> cases e
  refine ⟨g, ⟨FLe.refl _, fun a o e _ => ?_, fun _ _ _ _ => rfl⟩, ?_, fun i d e => ?_, fun i z e => ?_, fun i j z y q nij e1 e2 => ?_⟩
  · have e : (if a = p then none else H a) = some o := e
    split at e
    · cases e
    · exact e
  · unfold L2.start
    simp only [List.length_cons, List.length_append, List.length_map, List.length_replicate, hlen]
    omega
  · cases i with
    | zero => cases e
    | succ i =>
      rw [List.getElem?_cons_succ] at e
      by_cases hi : i < ds.length
      · rw [List.getElem?_append_left (by rw [List.length_map]; exact hi), List.getElem?_map, List.getElem?_eq_getElem hi] at e
        cases e
        obtain ⟨v, h1, h2⟩ := rs.get (List.getElem?_eq_getElem hi)
        refine ⟨v, ?_, h2⟩
        unfold L2.start
        rw [List.map_cons, List.cons_append, List.getElem?_cons_succ, List.getElem?_append_left (by rw [List.length_map, hlen]; exact hi), List.getElem?_map, h1]
        rfl
      · rw [List.getElem?_append_right (by rw [List.length_map]; omega), List.getElem?_replicate] at e
        split at e <;> cases e
  · obtain ⟨rfl, rfl⟩ := only i z e
    refine ⟨p, VI k, rfl, hp, hf, fun o q => ?_, rfl, rfl⟩
    have q : (if p = p then none else H p) = some o := q
    rw [if_pos rfl] at q
    cases q
  · obtain ⟨rfl, rfl⟩ := only i z e1
    obtain ⟨rfl, rfl⟩ := only j y e2
    exact absurd rfl nij
section
variable {TB : Tbs} {P : Program} {w : World} {K : PySem.W.Frag} {mg : Str → Option Value} {base : Heap} {x : Str} {st : Stmt} {N ps : List Str} {kk m : Nat} {pre : List D → Prop} {φ : List D → D → Prop}
theorem FnK.mk' (a : At K mg x st ps) (S : FnScope N ps (defScope st)) (len : ∀ ds, pre ds → ds.length + 1 = ps.length)
    (body : ∀ (f : Addr) (cdv : Value) (A : Around) (outer : List Env) (s : Shared) (H : Hp) (E : XK), Room kk (A.deeper (envOfC x (defScope st) s.heap.objs.size f cdv)) → ∀ (p : Addr) (ds : List D) (k : List Int) (n : Nat), pre ds → DkOk n k → n + m ≤ 400 →
      SD TB (BX P w K mg base N x (defScope st) f cdv A outer s H E) (defBody st) (Sl.o (.q p k) :: (ds.map Sl.d ++ List.replicate (N.length - (ds.length + 1)) Sl.no)) (RetK p fun d k' => φ ds d ∧ DkOk (n + m) k')) : FnK TB P w K mg base x ps (kk + 1) m pre φ := by
  obtain ⟨f, fd, hm, F, hb⟩ := a.ex
  refine ⟨f, fd, hm, F.kp, hb, F.ok S (fun vs H Q E h => ?_) (fun cdv A outer s H vs Q E hr h => ?_)⟩
  · obtain ⟨F', p, us, ds, k, n, rfl, _, _, _, _, _, r, hp, _⟩ := h
    rw [List.length_cons, r.length]
    exact len ds hp
  · obtain ⟨F', p, us, ds, k, n, rfl, g, hf, hH, hk, hn, r, hp, q⟩ := h
    refine ⟨_, pss_w _, body f cdv A outer s _ E hr p ds k n hp hk hn _ _ _ _ (deck_ok g hf hH r) ⟨fun _ _ _ _ _ e => e.elim, fun v w' σ' env' d k' r' e => ?_, fun _ _ _ _ _ e => e.elim, fun _ _ _ _ _ e => e.elim⟩⟩
    obtain ⟨k2, e0, h1, h2⟩ := e
    obtain ⟨s', hp', hf', _⟩ := k'.qAt e0
    refine q v w' k2 d h2 h1 k'.good ⟨k'.le.f, fun y o e n => ?_, fun y o e n => ?_⟩ r'
    · have e : upd H p (VI k2) y = some o := e
      by_cases z : y = p
      · subst z
        rw [upd_same] at e
        cases e
        exact hp'
      · rw [upd_ne z] at e
        exact k'.le.h y o (show (if y = p then none else H y) = some o by rw [if_neg z]; exact e) n
    · have e : upd H p (VI k2) y = some o := e
      by_cases z : y = p
      · subst z
        exact hf'.trans hf.symm
      · rw [upd_ne z] at e
        exact k'.le.n y o (show (if y = p then none else H y) = some o by rw [if_neg z]; exact e) n
end
section
variable {TB : Tbs} {X : Cx} {env : List Sl} {a b c e tg : Expr} {es : List Expr} {x y : D} {ds xs : List D} {pos ps : Pos} {i : Nat} {p : Addr} {k : List Int} {R R' : D → List Int → Prop} {rest body els : List Stmt} {RO : Out → Prop}
/-- a call that hands on the deck -/
theorem pk_deck {f n : Str} {pn : Pos} {pss : List Str} {kk m N0 : Nat} {pre : List D → Prop} {φ : List D → D → Prop} (G : FnK TB X.prog X.w X.K X.mg X.base f pss kk m pre φ) (hr : Room kk X.A) (hi : env[i]? = some (Sl.o (.q p k))) (ha : PDs TB X es env ds) (hpre : pre ds) (hk : DkOk N0 k) (hn : N0 + m ≤ 400) (hR : ∀ d k', φ ds d → DkOk (N0 + m) k' → R d k') (hg : Gl X f := by rfl)
    (hN : X.N[i]? = some n := by rfl) (hv : Vis X.env.scope n := by first | exact Or.inl rfl | exact Or.inr (Or.inl rfl) | exact Or.inr (Or.inr rfl)) (hd : (n == ("__debug__" : Str)) = false := by decide) (hcd : (n == ("__classdict__" : Str)) = false := by decide)
    (hdb : (f == ("__debug__" : Str)) = false := by decide) (he : starEach (Expr.Name n pn :: es) X.env = (false, eval (Expr.Name n pn) X.env) :: starEach es X.env := by rfl) (hpl : (backTo pos (starEach es X.env)).any (·.1) = false := by rfl) :
    PK TB X (.Call (.Name f ps) (.Name n pn :: es) [] pos) env p R := fun w0 w σ Q o q => by
  obtain ⟨ff, fd, hm, kp, hb, F⟩ := G.ex
  obtain ⟨s, hp, hf, h0⟩ := o.qAt hi
  refine runE (pe_call F hr hg hm kp hb .nil pass0 (pa_cons (pe_var hN hv hd hcd) (pa_w es) he) hdb he hpl) ⟨.ref p, s, ha w0 w σ _ o fun vs w1 g1 l1 r1 => ?_⟩
  show spK TB X.K m pre φ ((.ref p :: vs) ++ []) w1.H Q E0
  rw [List.append_nil]
  refine ⟨w1.F, p, vs, ds, k, N0, rfl, g1, (l1.n p _ hp (VI_nt k)).trans hf, l1.h p _ hp (VI_nt k), hk, hn, r1, hpre, fun v w' k' r hk' hφ g' l' r' => q v w' r k' g' (LeK.left hp (VI_nt k) l1 l') r' (hR r k' hφ hk')⟩
/-! ### statements -/
theorem sd_setK (j : Nat) {n : Str} {p' : Pos} (hi : env[i]? = some (Sl.o (.q p k))) (he : PK TB X e env p R) (q : ∀ d k', R d k' → SD TB X rest ((env.set i (Sl.o (.q p k'))).set j (Sl.d d)) RO) (nd : X.N.Nodup) (hj : X.N[j]? = some n := by rfl) (hx : Loc X.env.scope n := by first | exact Or.inl rfl | exact Or.inr rfl)
    (hs : swapsWith e (some (.Name n p')) pos.line X.env = pure false := by rfl) (hf : X.fn n = true ∨ X.env.scope.names.lookup n = some .local := by first | exact .inl rfl | exact .inr rfl) : SD TB X (.Assign [.Name n p'] e pos :: rest) env RO :=
  sd_cons fun w0 w σ D' o en => runS1 (ps_set nd hj hx (pe_w e) hs hf) (he w0 w σ _ o fun v w1 d k1 g1 l1 r1 h1 => en.nx w1 _ _ ((o.step hi g1 l1).set r1) l1.f (q d k1 h1))
theorem sd_retK (hi : env[i]? = some (Sl.o (.q p k))) (he : PK TB X e env p R) (q : ∀ d k', R d k' → RO (.ret d (env.set i (Sl.o (.q p k'))))) : SD TB X (.Return (some e) pos :: rest) env RO :=
  sd_cons fun w0 w σ D' o en => runS1 (ps_ret (pe_w e)) (he w0 w σ _ o fun v w1 d k1 g1 l1 r1 h1 => en.rt v w1 σ _ d (o.step hi g1 l1) r1 (q d k1 h1))
theorem sd_ifK {Rb : Bool → List Int → Prop} (hi : env[i]? = some (Sl.o (.q p k))) (hc : PTk TB X c env p Rb) (ha : ∀ k', Rb true k' → SD TB X body (env.set i (Sl.o (.q p k'))) (Sq TB X rest RO)) (hb : ∀ k', Rb false k' → SD TB X els (env.set i (Sl.o (.q p k'))) (Sq TB X rest RO)) : SD TB X (.If c body els pos :: rest) env RO :=
  sd_cons fun w0 w σ D' o en => runS1 (ps_if (pt_w c) (pss_w body) (pss_w els)) (hc w0 w σ _ o fun w1 t k1 g1 l1 h1 => by
    cases t with
    | true => exact iteT (ha k1 h1 w0 w1 σ D' (o.step hi g1 l1) (en.at l1.f))
    | false => exact iteF (hb k1 h1 w0 w1 σ D' (o.step hi g1 l1) (en.at l1.f)))
end
end Lw
set_option Elab.async false
set_option linter.all false
set_option maxRecDepth 100000
set_option maxHeartbeats 4000000
/-! # the deck: reads, writes, loops, comprehensions -/
namespace Lw
open PySem PySem.Spec PyProof.Rows L2
section
variable {TB : Tbs} {X : Cx} {env : List Sl} {a b c e tg iter elt : Expr} {es : List Expr} {x y d : D} {ds xs : List D} {pos ps : Pos} {i : Nat} {p : Addr} {k : List Int} {R R' : D → List Int → Prop} {rest body els : List Stmt} {RO : Out → Prop}
theorem atI_vi {j m : Int} (h : atI k j = some m) : atI (k.map V.int) j = some (.int m) := by
  unfold atI at *
  rw [List.length_map]
  cases q : ixN k.length j with
  | none =>
    rw [q] at h
    cases h
  | some t =>
    rw [q] at h
    show (k.map V.int)[t]? = _
    rw [List.getElem?_map, show k[t]? = some m from h]
    rfl
/-- deck[j] -/
theorem pd_ixq (i : Nat) {j m : Int} {n : Str} {pn : Pos} (hi : env[i]? = some (Sl.o (.q p k))) (hb : PD TB X b env (.int j)) (h : atI k j = some m) (hN : X.N[i]? = some n := by rfl) (hv : Vis X.env.scope n := by first | exact Or.inl rfl | exact Or.inr (Or.inl rfl) | exact Or.inr (Or.inr rfl))
    (hd : (n == ("__debug__" : Str)) = false := by decide) (hcd : (n == ("__classdict__" : Str)) = false := by decide) (hs : PlainIx b := by exact fun _ _ => rfl) : PD TB X (.Subscript (.Name n pn) b pos) env (.int m) := fun w0 w σ Q o q => by
  obtain ⟨s, hp, hf, h0⟩ := o.qAt hi
  refine runE (pe_ix ix_list (pe_var hN hv hd hcd) (pe_w b) hs) ⟨.ref p, s, hb w0 w σ _ o fun u w2 g2 l2 r2 => ?_⟩
  cases r2
  exact ⟨_, _, j, .int m, rfl, rfl, .inl (.inl (l2.h p _ hp (VI_nt k))), atI_vi h, q _ w2 g2 l2 .int⟩
/-- deck[j] = e -/
theorem sd_setQ (i j : Nat) {jj m : Int} {n : Str} {pn p1 : Pos} (hi : env[i]? = some (Sl.o (.q p k))) (he : PD TB X e env (.int m)) (hb : PD TB X b env (.int jj)) (hj : ixN k.length jj = some j) (q : SD TB X rest (env.set i (Sl.o (.q p (k.set j m)))) RO) (hN : X.N[i]? = some n := by rfl) (hv : Vis X.env.scope n := by first | exact Or.inl rfl | exact Or.inr (Or.inl rfl) | exact Or.inr (Or.inr rfl))
    (hd : (n == ("__debug__" : Str)) = false := by decide) (hcd : (n == ("__classdict__" : Str)) = false := by decide)
    (ha : ∀ v, assign (.Subscript (.Name n pn) b p1) X.env v = (do
      let ov ← holding [v] (eval (.Name n pn) X.env)
      let iv ← holding [v, ov] (eval b X.env)
      standAt p1
      holding [v, ov, iv] (setItem ov iv v)
      release [v, ov, iv] []) := by intro _; rfl)
    (hs : swapsWithSole [.Subscript (.Name n pn) b p1] e pos.line X.env = pure false := by rfl) (hw : swappedStores [.Subscript (.Name n pn) b p1] e X.env = pure none := by rfl)
    (h1 : (assignEach [.Subscript (.Name n pn) b p1] X.env).map (·.2) = [assign (.Subscript (.Name n pn) b p1) X.env] := by rfl) : SD TB X (.Assign [.Subscript (.Name n pn) b p1] e pos :: rest) env RO :=
  sd_cons fun w0 w σ D' o en => by
    obtain ⟨s, hp, hf, h0⟩ := o.qAt hi
    refine runS1 (ps_asg (pe_w e) (pg_sub (pe_var hN hv hd hcd) (pe_w b) set_list ha) hs hw h1) (he w0 w σ _ o fun v w1 g1 l1 r1 => ⟨.ref p, s, hb w0 w1 σ _ (o.mono g1 l1) fun u w2 g2 l2 r2 => ?_⟩)
    cases r1; cases r2
    have hp2 : w2.H p = some (VI k) := l2.h p _ (l1.h p _ hp (VI_nt k)) (VI_nt k)
    refine ⟨p, _, jj, j, rfl, rfl, hp2, by rw [List.length_map]; exact hj, ?_⟩
    have o2 := (o.mono g1 l1).mono g2 l2
    have := o2.chg (h := .lst ((k.set j m).map V.int)) (y := .q p (k.set j m)) hi s ⟨rfl, rfl⟩
    rw [List.map_set] at this
    exact en.nx ⟨w2.F, upd w2.H p _⟩ _ _ this (l1.f.trans l2.f) q
/-- x.append(e), e draws -/
theorem sd_appK (j : Nat) {n : Str} {pn p1 p2 : Pos} (hi : env[i]? = some (Sl.o (.q p k))) (hj : env[j]? = some (Sl.o (.l xs))) (he : PK TB X e env p R) (hl : xs.length < 100000) (q : ∀ d k', R d k' → SD TB X rest ((env.set i (Sl.o (.q p k'))).set j (Sl.o (.l (xs ++ [d])))) RO) (hN : X.N[j]? = some n := by rfl) (hv : Vis X.env.scope n := by first | exact Or.inl rfl | exact Or.inr (Or.inl rfl) | exact Or.inr (Or.inr rfl))
    (hd : (n == ("__debug__" : Str)) = false := by decide) (hcd : (n == ("__classdict__" : Str)) = false := by decide)
    (hbase : attributeBase (.Name n pn) "append" X.env (eval (.Name n pn) X.env) = eval (.Name n pn) X.env := by rfl)
    (hfew : ((backTo p2 (starEach [e] X.env)).all (fun x => !x.1) && (backToKw p2 (keywordEach [] X.env)).all (fun x => x.1.isSome)
      && decide ([e].length + ([] : List Keyword).length + (if ([] : List Keyword).isEmpty then 0 else 1) < 30)) = true := by rfl)
    (hline : (p1.endLine == p2.line) = true := by rfl) (hst : starEach [e] X.env = (false, eval e X.env) :: starEach [] X.env := by rfl) (hplain : (backTo p2 (starEach [] X.env)).any (·.1) = false := by rfl)
    (hs : swapsWith (.Call (.Attribute (.Name n pn) "append" p1) [e] [] p2) none pos.line X.env = pure false := by rfl) : SD TB X (.Expr (.Call (.Attribute (.Name n pn) "append" p1) [e] [] p2) pos :: rest) env RO :=
  sd_cons fun w0 w σ D' o en => by
    obtain ⟨p2, h0, s, hp, hf, _, r⟩ := o.own j _ hj
    cases h0 <;> first | exact r.elim | skip
    rename_i vs
    have r : Reps X.K w.F vs xs := r
    have hq := o.qAt hi
    have hij : i ≠ j := fun z => by
      subst z
      rw [hi] at hj
      cases hj
    have ne : p2 ≠ p := fun z => by
      subst z
      exact o.sep i j _ _ p2 hij hi hj hq.1 s
    refine runS1 (ps_expr (pe_bm PySem.F.plainAttrs_list PySem.F.slot_list_append PySem.F.type_list_append (mt_append) (pe_var hN hv hd hcd) (pa_cons (pe_w e) pa_nil hst) hbase hfew hline hst hplain) hs) ⟨.ref p2, s, .inl ⟨rfl, _, .inl (.inl hp)⟩, he w0 w σ _ o fun v w1 d k1 g1 l1 r1 h1 => ?_⟩
    have hp1 : w1.H p2 = some (.lst vs) := Le.h l1 p2 _ (show upd w.H p (VI k1) p2 = _ by rw [upd_ne ne]; exact hp) fun _ z => by cases z
    have hj1 : (env.set i (Sl.o (.q p k1)))[j]? = some (Sl.o (.l xs)) := by rw [List.getElem?_set_ne hij]; exact hj
    refine ⟨p2, vs, v, rfl, rfl, hp1, by rw [r.length]; exact size_lt hl, ?_⟩
    exact en.nx ⟨w1.F, upd w1.H p2 (.lst (vs ++ [v]))⟩ _ _ ((o.step hi g1 l1).chg (h := .lst (vs ++ [v])) (y := .l (xs ++ [d])) hj1 s ((r.mono l1.f).append (.cons r1 .nil))) l1.f (q d k1 h1)
/-- for x in range(e), e draws -/
theorem sd_forK {pr : Pos} (I : Nat → Nat → List Sl → Prop) (hm : X.mg "range" = none) (hi : env[i]? = some (Sl.o (.q p k))) (he : PK TB X a env p R) (h0 : ∀ d k', R d k' → ∃ n : Nat, d = .int n ∧ n ≤ 1000 ∧ I n 0 (env.set i (Sl.o (.q p k'))))
    (step : ∀ n j l, j < n → I n j l → ∃ l' is, PGd TB X tg l (.int (j : Nat)) l' is ∧ SD TB X body l' (fun o => match o with
      | .nx m => ∃ m', Weak m m' ∧ I n (j + 1) m'
      | .ct m => ∃ m', Weak m m' ∧ I n (j + 1) m'
      | .bk m => SD TB X rest m RO
      | .ret d m => RO (.ret d m)))
    (done : ∀ n l, I n n l → SD TB X rest l RO) (hg : Gl X "range" := by rfl) (hst : starEach [a] X.env = [(false, eval a X.env)] := by rfl) (hp : PassesOwn (model X.prog X.w) X.A X.env X.xe := by exact PassesOwn.never) (hc : X.calm = true := by rfl) (hs : ∀ x, foldedSetIterable (.Call (.Name "range" pr) [a] [] ps) X.env x = pure x := by intro _; rfl) : SD TB X (.For tg (.Call (.Name "range" pr) [a] [] ps) body [] pos :: rest) env RO :=
  sd_cons fun w0 w σ D' o en => runS1 (ps_for hp hc (pi_range1 hg hm (pa_cons (pe_w a) pa_nil hst) hst) (pg_w tg) (pss_w body) hs) (he w0 w σ _ o fun v w1 d k1 g1 l1 r1 h1 => by
    obtain ⟨n, rfl, hn, hI0⟩ := h0 d k1 h1
    cases r1
    refine ⟨(n : Int), rfl, by omega, by omega, ?_⟩
    have it : ItOk X.K TB (Itr 0 n) w1 (rgD n) := itOk_range
    have en1 := en.at l1.f
    have hlen : (rgD n).length = n := rgD_length n
    refine ⟨fun i m σ' H' => m = n - i ∧ i ≤ n ∧ ∃ w' l, w'.H = H' ∧ FLe w1.F w'.F ∧ Ok X.K TB w0 w' σ' l ∧ I n i l, ⟨n, by simp, Nat.zero_le _, w1, _, rfl, FLe.refl _, o.step hi g1 l1, hI0⟩, ?_⟩
    rintro j m σ' H' ⟨rfl, hle, w', l, rfl, f', k', hI⟩
    by_cases hlt : j < n
    · obtain ⟨go, yl⟩ := it.1 j w' k'.good f' (by rw [hlen]; exact hlt)
      refine .inr ⟨go, fun σ2 H2 => j + 1 ≤ n ∧ ∃ w' l, w'.H = H2 ∧ FLe w1.F w'.F ∧ Ok X.K TB w0 w' σ2 l ∧ I n (j + 1) l, fun σ2 H2 ⟨a, b⟩ => ⟨n - (j + 1), by omega, rfl, a, b⟩, fun v H2 y => ?_⟩
      obtain ⟨w2, rfl, g2, l2, r2⟩ := yl v H2 y
      obtain ⟨l', is, hg, hb⟩ := step n j l hlt hI
      have hat : (rgD n)[j]? = some (.int (j : Nat)) := by
        unfold rgD
        rw [List.getElem?_map, List.getElem?_range hlt]
        rfl
      refine hg w0 w2 σ' v _ (k'.mono g2 l2) (r2 _ hat) fun σ3 k3 _ => ?_
      have f2 : FLe w1.F w2.F := f'.trans l2.f
      refine hb w0 w2 σ3 _ k3 ⟨fun w4 σ4 m4 k4 f4 r4 => ?_, fun v4 w4 σ4 m4 d4 k4 r4 q4 => en1.rt v4 w4 σ4 m4 d4 k4 r4 q4, fun w4 σ4 m4 k4 f4 r4 => en1.nx w4 σ4 m4 k4 (f2.trans f4) r4, fun w4 σ4 m4 k4 f4 r4 => ?_⟩
      all_goals
        obtain ⟨m', hw, hI'⟩ := r4
        obtain ⟨w5, e5, f5, k5⟩ := k4.weak hw
        exact ⟨hlt, w5, m', e5, (f2.trans f4).trans f5, k5, hI'⟩
    · have e : j = n := by omega
      subst e
      refine .inl ⟨?_, en1.nx w' σ' l k' f' (done _ l hI)⟩
      have := it.2 w' k'.good f'
      rw [hlen] at this
      exact this)
end
end Lw
set_option Elab.async false
set_option linter.all false
set_option maxRecDepth 100000
set_option maxHeartbeats 4000000
/-! # the deck: comprehensions that draw -/
namespace Lw
open PySem PySem.Spec PyProof.Rows L2
section
variable {K : PySem.W.Frag} {TB : Tbs} {w0 w : Wd} {σ : L2.St} {env : List Sl} {a : Addr} {vs vs' : List V}
theorem Ok.aside (o : Ok K TB w0 w σ env) (no : ∀ (j : Nat) (x : OO), env[j]? = some (Sl.o x) → σ[j]? ≠ some (some (V.ref a))) (hf : w.F a = none) (hh : w.H a = some (.lst vs)) (h0 : ∀ u, w0.H a = some u → ∃ ps, u = .tbl ps) : Ok K TB w0 ⟨w.F, upd w.H a (.lst vs')⟩ σ env where
  good := o.good.own hf (tabs_upd o.good.tb hh)
  le := ⟨o.le.f, fun x u e n => by
    show upd w.H a (.lst vs') x = some u
    by_cases z : x = a
    · subst z
      obtain ⟨ps, e2⟩ := h0 u e
      exact absurd e2 (n ps)
    · rw [upd_ne z]
      exact o.le.h x u e n, o.le.n⟩
  len := o.len
  dat := o.dat
  own := fun j x e => by
    obtain ⟨p, h, s, hp, hf', h0', r⟩ := o.own j x e
    refine ⟨p, h, s, ?_, hf', h0', r⟩
    show upd w.H a (.lst vs') p = some h
    rw [upd_ne fun z => by subst z; exact no j x e s]
    exact hp
  sep := o.sep
theorem Ok.asideFz (o : Ok K TB w0 w σ env) (no : ∀ (j : Nat) (x : OO), env[j]? = some (Sl.o x) → σ[j]? ≠ some (some (V.ref a))) (hf : w.F a = none) (hh : w.H a = some (.lst vs)) (h0 : ∀ u, w0.H a = some u → ∃ ps, u = .tbl ps) : Ok K TB w0 ⟨upd w.F a (.lst vs), w.H⟩ σ env where
  good := ⟨fun x u e => by
    have e' : upd w.F a (.lst vs) x = some u := e
    by_cases z : x = a
    · subst z
      rw [upd_same] at e'
      cases e'
      exact hh
    · rw [upd_ne z] at e'
      exact o.good.sub x u e', fun x ps e => by
    have e' : upd w.F a (.lst vs) x = some (.tbl ps) := e
    by_cases z : x = a
    · subst z
      rw [upd_same] at e'
      cases e'
    · rw [upd_ne z] at e'
      exact o.good.nt x ps e', o.good.tb⟩
  le := ⟨o.le.f.trans (FLe.new hf), o.le.h, fun x u e n => by
    show upd w.F a (.lst vs) x = w0.F x
    by_cases z : x = a
    · subst z
      obtain ⟨ps, e2⟩ := h0 u e
      exact absurd e2 (n ps)
    · rw [upd_ne z]
      exact o.le.n x u e n⟩
  len := o.len
  dat := fun j x e => by
    obtain ⟨v, s, r⟩ := o.dat j x e
    exact ⟨v, s, r.mono (FLe.new hf)⟩
  own := fun j x e => by
    obtain ⟨p, h, s, hp, hf', h0', r⟩ := o.own j x e
    refine ⟨p, h, s, hp, ?_, h0', r.mono (FLe.new hf)⟩
    show upd w.F a (.lst vs) p = none
    rw [upd_ne fun z => by subst z; exact no j x e s]
    exact hf'
  sep := o.sep
end
section
variable {TB : Tbs} {X : Cx} {env : List Sl} {tg iter elt : Expr} {x y d : D} {ds xs : List D} {pos ps : Pos} {i : Nat} {p : Addr} {k : List Int} {rest : List Stmt} {RO : Out → Prop} {ifs : List Expr} {scope : Scope} {own : List (Str × Nat)}
structure KTurn (TB : Tbs) (X : Cx) (scope : Scope) (tg : Expr) (ifs : List Expr) (elt : Expr) (vs : List Nat) (l : List Sl) (i : Nat) (p : Addr) (k : List Int) (d : D) (acc : List D) (In : List D → List Int → Prop) : Prop where
  ex : ∃ l' is, (∀ i ∈ is, i ∈ vs) ∧ l'[i]? = some (Sl.o (.q p k)) ∧ (∀ (s : Shared) (H : Hp) (C : Addr) (cl : List (Str × Addr)) (fp : List Addr), PGd TB (Blk X scope s H C cl fp) tg l d l' is) ∧
    ((ifs = [] ∧ ∀ (s : Shared) (H : Hp) (C : Addr) (cl : List (Str × Addr)) (fp : List Addr), PK TB (Blk X scope s H C cl fp) elt l' p fun y k' => In (acc ++ [y]) k') ∨
     (∃ c, ifs = [c] ∧ ∃ Rb : Bool → List Int → Prop, (∀ (s : Shared) (H : Hp) (C : Addr) (cl : List (Str × Addr)) (fp : List Addr), PTk TB (Blk X scope s H C cl fp) c l' p Rb) ∧ (∀ k', Rb false k' → In acc k') ∧
       ∀ k', Rb true k' → ∃ y, In (acc ++ [y]) k' ∧ ∀ (s : Shared) (H : Hp) (C : Addr) (cl : List (Str × Addr)) (fp : List Addr), PD TB (Blk X scope s H C cl fp) elt (l'.set i (Sl.o (.q p k'))) y))
theorem lc_readK {vs : List Nat} {w0 w1 : Wd} {σ : L2.St} {J : It} {QD : Addr → Hp → Prop} (s₀ : Shared) (o : Ok X.K TB w0 w1 σ env) (hi : env[i]? = some (Sl.o (.q p k))) (it : ItOk X.K TB J w1 xs) (hl : xs.length ≤ 90000) (I : Nat → List D → List Int → Prop) (hI0 : I 0 [] k) (hIl : ∀ j acc k, I j acc k → acc.length ≤ j)
    (turn : ∀ (j : Nat) (d : D) (acc : List D) (k' : List Int), xs[j]? = some d → I j acc k' → KTurn TB X scope tg ifs elt vs (wipeS (env.set i (Sl.o (.q p k'))) vs) i p k' d acc (I (j + 1)))
    (q : ∀ Dl w' acc k', Ok X.K TB w0 w' σ (env.set i (Sl.o (.q p k'))) → FLe w1.F w'.F → Rep X.K w'.F (.ref Dl) (.lst acc) → I xs.length acc k' → QD Dl w'.H) :
    ∀ Dl, w1.H Dl = none → ∃ W : Nat → Nat → Hp → Prop, (∃ m, W 0 m (upd w1.H Dl (.lst []))) ∧ ∀ i m H, W i m H →
      (J.stop i H ∧ QD Dl H) ∨ (J.go i H ∧ ∃ Nx : Hp → Prop, (∀ H', Nx H' → ∃ m', m' < m ∧ W (i + 1) m' H') ∧ ∀ x H', J.yld i H x H' → wGb X scope tg x (wipe σ vs) H' fun σ2 H2 => wipe σ2 vs = wipe σ vs ∧ wTsb X scope ifs σ2 H2 fun b H3 =>
        if b = true then wEb X scope elt σ2 H3 fun y H4 => ∃ acc, H4 Dl = some (.lst acc) ∧ acc.length < sizeLine ∧ Nx (upd H4 Dl (.lst (acc ++ [y]))) else Nx H3) := by
  intro Dl hD
  have hF := o.good.fresh hD
  have hq := o.qAt hi
  have hne : Dl ≠ p := fun z => by
    subst z
    rw [hD] at hq
    cases hq.2.1
  have h0 : ∀ u, w0.H Dl = some u → ∃ ps, u = .tbl ps := fun u e => by
    cases u with
    | tbl ps => exact ⟨ps, rfl⟩
    | _ =>
      have := o.le.h Dl _ e (fun ps z => by cases z)
      rw [hD] at this
      cases this
  have hno : ∀ (k' : List Int) (j : Nat) (x : OO), (env.set i (Sl.o (.q p k')))[j]? = some (Sl.o x) → σ[j]? ≠ some (some (V.ref Dl)) := fun k' j x e s => by
    rcases get_set e with ⟨rfl, z⟩ | ⟨_, z⟩
    · rw [hq.1] at s
      cases s
      exact hne rfl
    · obtain ⟨p', h, s', hp, _⟩ := o.own j x z
      rw [s] at s'
      cases s'
      rw [hD] at hp
      cases hp
  have hset : env.set i (Sl.o (.q p k)) = env := by
    have hlt := (List.getElem?_eq_some_iff.mp hi).1
    have e := (List.getElem?_eq_some_iff.mp hi).2
    rw [← e]
    exact List.set_getElem_self hlt
  refine ⟨fun j m H => m = xs.length - j ∧ j ≤ xs.length ∧ ∃ w acc k' us, w.H = H ∧ Ok X.K TB w0 w σ (env.set i (Sl.o (.q p k'))) ∧ w.H Dl = some (.lst us) ∧ Reps X.K w.F us acc ∧ w.F Dl = none ∧ FLe w1.F w.F ∧ I j acc k',
    ⟨xs.length, by simp, Nat.zero_le _, ⟨w1.F, upd w1.H Dl (.lst [])⟩, [], k, [], rfl, by rw [hset]; exact o.mono (o.good.own hF (tabs_new o.good.tb hD)) (Le.own hD), upd_same, .nil, hF, FLe.refl _, hI0⟩, ?_⟩
  rintro j m H ⟨rfl, hle, w, acc, k', us, rfl, ow, hDw, hr, hFD, fl, hI⟩
  by_cases hlt : j < xs.length
  · obtain ⟨go, yl⟩ := it.1 j w ow.good fl hlt
    refine .inr ⟨go, fun H' => j + 1 ≤ xs.length ∧ ∃ w acc k' us, w.H = H' ∧ Ok X.K TB w0 w σ (env.set i (Sl.o (.q p k'))) ∧ w.H Dl = some (.lst us) ∧ Reps X.K w.F us acc ∧ w.F Dl = none ∧ FLe w1.F w.F ∧ I (j + 1) acc k', fun H' ⟨a, b⟩ => ⟨xs.length - (j + 1), by omega, rfl, a, b⟩, fun v H2 yy s H' C cl fp => ?_⟩
    obtain ⟨w2, rfl, g2, l2, r2⟩ := yl v H2 yy
    obtain ⟨l', is, hsub, hil, hg, ht⟩ := (turn j xs[j] acc k' (List.getElem?_eq_getElem hlt) hI).ex
    have o2 := ow.mono g2 l2
    have hD2 : w2.H Dl = some (.lst us) := l2.h Dl _ hDw fun _ z => by cases z
    have hF2 : w2.F Dl = none := (l2.n Dl _ hDw fun _ z => by cases z).trans hFD
    have hst : ∀ {w3 : Wd} {k3 : List Int}, LeK p k3 w2 w3 → w3.H Dl = some (.lst us) ∧ w3.F Dl = none := fun {w3 k3} l3 =>
      ⟨Le.h l3 Dl _ (show upd w2.H p (VI k3) Dl = _ by rw [upd_ne hne]; exact hD2) (fun _ z => by cases z), (Le.n l3 Dl _ (show upd w2.H p (VI k3) Dl = _ by rw [upd_ne hne]; exact hD2) (fun _ z => by cases z)).trans hF2⟩
    have hik : (env.set i (Sl.o (.q p k')))[i]? = some (Sl.o (.q p k')) := List.getElem?_set_self (List.getElem?_eq_some_iff.mp hi).1
    have hss : ∀ k3, ((env.set i (Sl.o (.q p k'))).set i (Sl.o (.q p k3))) = env.set i (Sl.o (.q p k3)) := fun k3 => List.set_set ..
    have fin : ∀ (w4 : Wd) (k4 : List Int) (y : D) (v4 : V), Good TB w4 → LeK p k4 w2 w4 → Rep X.K w4.F v4 y → I (j + 1) (acc ++ [y]) k4 → ∃ acc, w4.H Dl = some (.lst acc) ∧ acc.length < sizeLine ∧ (j + 1 ≤ xs.length ∧ ∃ w acc' k' us, w.H = upd w4.H Dl (.lst (acc ++ [v4])) ∧ Ok X.K TB w0 w σ (env.set i (Sl.o (.q p k'))) ∧ w.H Dl = some (.lst us) ∧ Reps X.K w.F us acc' ∧ w.F Dl = none ∧ FLe w1.F w.F ∧ I (j + 1) acc' k') := fun w4 k4 y v4 g4 l4 r4 h4 => by
      obtain ⟨hD4, hF4⟩ := hst l4
      have o4 := o2.step hik g4 l4
      rw [hss] at o4
      refine ⟨us, hD4, ?_, hlt, ⟨w4.F, upd w4.H Dl (.lst (us ++ [v4]))⟩, acc ++ [y], k4, us ++ [v4], rfl, o4.aside (hno k4) hF4 hD4 h0, upd_same, (hr.mono (l2.f.trans l4.f)).append (.cons r4 .nil), hF4, (fl.trans l2.f).trans l4.f, h4⟩
      rw [hr.length]
      exact size_lt (by have := hIl j acc k' hI; omega)
    refine hg s H' C cl fp w0 w2 (wipe σ vs) v _ (wipe_ok o2 vs) (r2 _ (List.getElem?_eq_getElem hlt)) fun σ2 k2 s2 => ⟨?_, ?_⟩
    · rw [wipe_sets s2 hsub, wipe_wipe]
    · rcases ht with ⟨rfl, he⟩ | ⟨c, rfl, Rb, hc, hf, hy⟩
      · unfold wTsb tYes
        exact iteT (fun s H' C cl fp => he s H' C cl fp w0 w2 σ2 _ k2 fun v4 w4 y k4 g4 l4 r4 h4 => fin w4 k4 y v4 g4 l4 r4 h4)
      · refine (fun s H' C cl fp => hc s H' C cl fp w0 w2 σ2 _ k2 fun w3 b k3 g3 l3 h3 => ?_)
        cases b with
        | true =>
          obtain ⟨y, hy1, hy2⟩ := hy k3 h3
          exact iteT (fun s H' C cl fp => hy2 s H' C cl fp w0 w3 σ2 _ (k2.step hil g3 l3) fun v4 w4 g4 l4 r4 => fin w4 k3 y v4 g4 (l3.right l4) r4 hy1)
        | false =>
          obtain ⟨hD3, hF3⟩ := hst l3
          have o3 := o2.step hik g3 l3
          rw [hss] at o3
          exact iteF ⟨hlt, w3, acc, k3, us, rfl, o3, hD3, hr.mono (l2.f.trans l3.f), hF3, (fl.trans l2.f).trans l3.f, hf k3 h3⟩
  · have e : j = xs.length := by omega
    subst e
    have fz := ow.asideFz (hno k') hFD hDw h0
    have := q Dl ⟨upd w.F Dl (.lst us), w.H⟩ acc k' fz (fl.trans (FLe.new hFD)) (.lst upd_same (hr.mono (FLe.new hFD))) hI
    exact .inl ⟨it.2 w ow.good fl, this⟩
/-- y = [..] on one line, turns that draw -/
theorem sd_setLcK (j : Nat) {n : Str} {py spos : Pos} (hi : env[i]? = some (Sl.o (.q p k))) (hit : PId TB X tg iter env xs) (hl : xs.length ≤ 90000) (I : Nat → List D → List Int → Prop) (hI0 : I 0 [] k) (hIl : ∀ j acc k, I j acc k → acc.length ≤ j)
    (turn : ∀ (j : Nat) (d : D) (acc : List D) (k' : List Int), xs[j]? = some d → I j acc k' → KTurn TB X scope tg ifs elt (own.map (·.2)) (wipeS (env.set i (Sl.o (.q p k'))) (own.map (·.2))) i p k' d acc (I (j + 1)))
    (q : ∀ acc k', I xs.length acc k' → SD TB X rest ((env.set i (Sl.o (.q p k'))).set j (Sl.d (.lst acc))) RO) (nd : X.N.Nodup) (ok : BlkOk X.N X.env.scope scope own) (hsw : swapsWith (.ListComp elt [⟨tg, iter, ifs, 0⟩] scope pos) (some (.Name n py)) spos.line X.env = pure true := by rfl)
    (hn : X.N[j]? = some n := by rfl) (hx : X.env.scope.names.lookup n = some .local := by rfl) (hifs : ifs.length ≤ 1 := by decide) (hc : X.calm = true := by rfl) (hs : ∀ x, foldedSetIterable iter X.env x = pure x := by intro _; rfl) :
    SD TB X (.Assign [.Name n py] (.ListComp elt [⟨tg, iter, ifs, 0⟩] scope pos) spos :: rest) env RO :=
  sd_cons fun w0 w σ D' o en pins s Iv => runS1 (ps_setLc hc nd hn hx hsw (pi_w tg iter) ok (pg_wb tg) (pts_wb hifs) (pe_wb elt) hs) (hit w0 w σ _ o fun J w1 g1 l1 it =>
    lc_readK (QD := fun Dl H => D'.nx (σ.set j (some (.ref Dl))) H) s (o.mono g1 l1) hi it hl I hI0 hIl turn fun Dl w' acc k' ow' fl r' hI' => en.nx w' _ _ (ow'.set r') (l1.f.trans fl) (q acc k' hI')) pins s Iv
end
end Lw
set_option Elab.async false
set_option linter.all false
set_option maxRecDepth 100000
set_option maxHeartbeats 4000000
/-! # numbers of the deck, pop -/
namespace Lw
open PySem PySem.Spec PyProof.Rows L2
section
variable {TB : Tbs} {X : Cx} {env : List Sl} {a b c e e1 e2 tg iter elt : Expr} {es : List Expr} {x y d : D} {ds xs ys : List D} {pos ps pos1 pos2 : Pos} {i : Nat} {p : Addr} {k : List Int} {R R' : D → List Int → Prop} {rest body els : List Stmt} {RO : Out → Prop}
theorem pd_intI {j : Int} (hm : X.mg "int" = none) (ha : PD TB X a env (.int j)) (hg : Gl X "int" := by rfl) (he : starEach [a] X.env = (false, eval a X.env) :: starEach [] X.env := by rfl) (hpl : (backTo pos (starEach [] X.env)).any (·.1) = false := by rfl) : PD TB X (.Call (.Name "int" ps) [a] [] pos) env (.int j) :=
  pd_callTy call_int1 hm (by decide +kernel) (pds_cons ha pds_nil he) (fun vs w Q g r q => by
    cases r with
    | cons r1 r2 =>
      cases r2; cases r1
      exact .inl ⟨j, rfl, q _ w g (Le.refl w) .int⟩) hg (by decide) (by decide) he hpl
theorem pd_intB {j : Bool} (hm : X.mg "int" = none) (ha : PD TB X a env (.bl j)) (hg : Gl X "int" := by rfl) (he : starEach [a] X.env = (false, eval a X.env) :: starEach [] X.env := by rfl) (hpl : (backTo pos (starEach [] X.env)).any (·.1) = false := by rfl) : PD TB X (.Call (.Name "int" ps) [a] [] pos) env (.int (if j then 1 else 0)) :=
  pd_callTy call_int1 hm (by decide +kernel) (pds_cons ha pds_nil he) (fun vs w Q g r q => by
    cases r with
    | cons r1 r2 =>
      cases r2; cases r1
      exact .inr ⟨j, rfl, q _ w g (Le.refl w) .int⟩) hg (by decide) (by decide) he hpl
theorem pd_abs {j : Int} (hm : X.mg "abs" = none) (ha : PD TB X a env (.int j)) (hg : Gl X "abs" := by rfl) (he : starEach [a] X.env = (false, eval a X.env) :: starEach [] X.env := by rfl) (hpl : (backTo pos (starEach [] X.env)).any (·.1) = false := by rfl) : PD TB X (.Call (.Name "abs" ps) [a] [] pos) env (.int (if j < 0 then -j else j)) :=
  pd_callB call_abs hm (by decide +kernel) (pds_cons ha pds_nil he) (fun vs w Q g r q => by
    cases r with
    | cons r1 r2 =>
      cases r2; cases r1
      exact ⟨j, rfl, q _ w g (Le.refl w) .int⟩) hg (by decide) (by decide) he hpl
theorem pd_pow {m j : Int} (ha : PD TB X a env (.int m)) (hb : PD TB X b env (.int j)) (h : CPow m j) : PD TB X (.BinOp a .Pow b pos) env (.int (m ^ j.toNat)) := fun w0 w σ Q o q =>
  runE (pe_op op_pow (pe_w a) (pe_w b)) (ha w0 w σ _ o fun v w1 g1 l1 r1 => hb w0 w1 σ _ (o.mono g1 l1) fun u w2 g2 l2 r2 => by
    cases r1; cases r2
    exact ⟨m, j, rfl, rfl, h, q _ w2 g2 (l1.trans l2) .int⟩)
theorem pd_fdivW {m j : Int} (ha : PD TB X a env (.int m)) (hb : PD TB X b env (.int j)) (h : CDivW m j) : PD TB X (.BinOp a .FloorDiv b pos) env (.int (m / j)) := fun w0 w σ Q o q =>
  runE (pe_op op_fdivW (pe_w a) (pe_w b)) (ha w0 w σ _ o fun v w1 g1 l1 r1 => hb w0 w1 σ _ (o.mono g1 l1) fun u w2 g2 l2 r2 => by
    cases r1; cases r2
    exact ⟨m, j, rfl, rfl, h, q _ w2 g2 (l1.trans l2) .int⟩)
/-- x.append((y.pop(e1), e2)), both draw -/
theorem sd_appPop (f l : Nat) {n n2 : Str} {pn p1 p2 pn2 p3 p4 : Pos} {jt : Nat} {pt : Pos} {R1 : D → List Int → Prop} (hi : env[i]? = some (Sl.o (.q p k))) (hf : env[f]? = some (Sl.o (.l xs))) (hl : env[l]? = some (Sl.o (.l ys))) (hil : i ≠ l := by decide) (hif : i ≠ f := by decide) (hfl : f ≠ l := by decide)
    (h1 : PK TB X e1 env p R1) (h2 : ∀ d k1, R1 d k1 → ∃ (m : Nat) (y : D), d = .int m ∧ m < 1000 ∧ ys[m]? = some y ∧ PK TB X e2 ((env.set i (Sl.o (.q p k1))).set l (Sl.o (.l (ys.eraseIdx m)))) p fun z k2 => SD TB X rest ((((env.set i (Sl.o (.q p k1))).set l (Sl.o (.l (ys.eraseIdx m)))).set i (Sl.o (.q p k2))).set f (Sl.o (.l (xs ++ [.tup [y, z]])))) RO)
    (hxl : xs.length < 1000) (hyl : ys.length < 1000)
    (hN : X.N[f]? = some n := by rfl) (hv : Vis X.env.scope n := by first | exact Or.inl rfl | exact Or.inr (Or.inl rfl) | exact Or.inr (Or.inr rfl)) (hd : (n == ("__debug__" : Str)) = false := by decide) (hcd : (n == ("__classdict__" : Str)) = false := by decide)
    (hN2 : X.N[l]? = some n2 := by rfl) (hv2 : Vis X.env.scope n2 := by first | exact Or.inl rfl | exact Or.inr (Or.inl rfl) | exact Or.inr (Or.inr rfl)) (hd2 : (n2 == ("__debug__" : Str)) = false := by decide) (hcd2 : (n2 == ("__classdict__" : Str)) = false := by decide)
    (hbase : attributeBase (.Name n pn) "append" X.env (eval (.Name n pn) X.env) = eval (.Name n pn) X.env := by rfl)
    (hfew : ((backTo p2 (starEach [Expr.Tuple [.Call (.Attribute (.Name n2 pn2) "pop" p3) [e1] [] p4, e2] jt pt] X.env)).all (fun x => !x.1) && (backToKw p2 (keywordEach [] X.env)).all (fun x => x.1.isSome)
      && decide ([Expr.Tuple [.Call (.Attribute (.Name n2 pn2) "pop" p3) [e1] [] p4, e2] jt pt].length + ([] : List Keyword).length + (if ([] : List Keyword).isEmpty then 0 else 1) < 30)) = true := by rfl)
    (hline : (p1.endLine == p2.line) = true := by rfl) (hst : starEach [Expr.Tuple [.Call (.Attribute (.Name n2 pn2) "pop" p3) [e1] [] p4, e2] jt pt] X.env = (false, eval (Expr.Tuple [.Call (.Attribute (.Name n2 pn2) "pop" p3) [e1] [] p4, e2] jt pt) X.env) :: starEach [] X.env := by rfl) (hplain : (backTo p2 (starEach [] X.env)).any (·.1) = false := by rfl)
    (hbase2 : attributeBase (.Name n2 pn2) "pop" X.env (eval (.Name n2 pn2) X.env) = eval (.Name n2 pn2) X.env := by rfl)
    (hfew2 : ((backTo p4 (starEach [e1] X.env)).all (fun x => !x.1) && (backToKw p4 (keywordEach [] X.env)).all (fun x => x.1.isSome)
      && decide ([e1].length + ([] : List Keyword).length + (if ([] : List Keyword).isEmpty then 0 else 1) < 30)) = true := by rfl)
    (hline2 : (p3.endLine == p4.line) = true := by rfl) (hst2 : starEach [e1] X.env = (false, eval e1 X.env) :: starEach [] X.env := by rfl) (hplain2 : (backTo p4 (starEach [] X.env)).any (·.1) = false := by rfl)
    (ht1 : starEach [Expr.Call (.Attribute (.Name n2 pn2) "pop" p3) [e1] [] p4, e2] X.env = (false, eval (Expr.Call (.Attribute (.Name n2 pn2) "pop" p3) [e1] [] p4) X.env) :: starEach [e2] X.env := by rfl) (ht2 : starEach [e2] X.env = (false, eval e2 X.env) :: starEach [] X.env := by rfl)
    (hs : swapsWith (.Call (.Attribute (.Name n pn) "append" p1) [.Tuple [.Call (.Attribute (.Name n2 pn2) "pop" p3) [e1] [] p4, e2] jt pt] [] p2) none pos.line X.env = pure false := by rfl) : SD TB X (.Expr (.Call (.Attribute (.Name n pn) "append" p1) [.Tuple [.Call (.Attribute (.Name n2 pn2) "pop" p3) [e1] [] p4, e2] jt pt] [] p2) pos :: rest) env RO :=
  sd_cons fun w0 w σ D' o en => by
    obtain ⟨pf, h0, s, hp, hff, _, r⟩ := o.own f _ hf
    cases h0 <;> first | exact r.elim | skip
    rename_i vs
    have r : Reps X.K w.F vs xs := r
    obtain ⟨pl, h0, sl, hpl, hfl', _, rl⟩ := o.own l _ hl
    cases h0 <;> first | exact rl.elim | skip
    rename_i us
    have rl : Reps X.K w.F us ys := rl
    have hq := o.qAt hi
    have nef : pf ≠ p := fun z => by
      subst z
      exact o.sep i f _ _ pf hif hi hf hq.1 s
    have nel : pl ≠ p := fun z => by
      subst z
      exact o.sep i l _ _ pl hil hi hl hq.1 sl
    have nefl : pf ≠ pl := fun z => by
      subst z
      exact o.sep f l _ _ pf hfl hf hl s sl
    refine runS1 (ps_expr (pe_bm PySem.F.plainAttrs_list PySem.F.slot_list_append PySem.F.type_list_append mt_append (pe_var hN hv hd hcd) (pa_cons (pe_tup (pa_cons (pe_bm PySem.F.plainAttrs_list PySem.F.slot_list_pop PySem.F.type_list_pop mt_popAt (pe_var hN2 hv2 hd2 hcd2) (pa_cons (pe_w e1) pa_nil hst2) hbase2 hfew2 hline2 hst2 hplain2) (pa_cons (pe_w e2) pa_nil ht2) ht1)) pa_nil hst) hbase hfew hline hst hplain) hs)
      ⟨.ref pf, s, .inl ⟨rfl, _, .inl (.inl hp)⟩, .ref pl, sl, .inl ⟨rfl, _, .inl (.inl hpl)⟩, h1 w0 w σ _ o fun v1 w1 d1 k1 g1 l1 r1 hR1 => ?_⟩
    obtain ⟨m, y, rfl, hm, hy, he2⟩ := h2 d1 k1 hR1
    cases r1
    have hp1 : w1.H pf = some (.lst vs) := Le.h l1 pf _ (show upd w.H p (VI k1) pf = _ by rw [upd_ne nef]; exact hp) fun _ z => by cases z
    have hpl1 : w1.H pl = some (.lst us) := Le.h l1 pl _ (show upd w.H p (VI k1) pl = _ by rw [upd_ne nel]; exact hpl) fun _ z => by cases z
    have rl1 := rl.mono l1.f
    obtain ⟨vy, e1', ry⟩ := rl1.get hy
    have hlt : m < us.length := (List.getElem?_eq_some_iff.mp e1').1
    refine ⟨pl, us, (m : Int), m, vy, rfl, rfl, hpl1, by omega, by omega, ?_, e1', ?_⟩
    · rw [seqIndex_of (by omega) (by omega)]
      simp
    have o1 := o.step hi g1 l1
    have hl1 : (env.set i (Sl.o (.q p k1)))[l]? = some (Sl.o (.l ys)) := by rw [List.getElem?_set_ne hil]; exact hl
    have o2 := o1.chg (h := .lst (us.eraseIdx m)) (y := .l (ys.eraseIdx m)) hl1 sl (Reps.eraseIdx m rl1)
    refine he2 w0 ⟨w1.F, upd w1.H pl (.lst (us.eraseIdx m))⟩ σ _ o2 fun v2 w3 z k3 g3 l3 r3 hR3 => ?_
    have f3 : FLe w1.F w3.F := LeK.f (w := ⟨w1.F, upd w1.H pl (.lst (us.eraseIdx m))⟩) l3
    have hi2 : ((env.set i (Sl.o (.q p k1))).set l (Sl.o (.l (ys.eraseIdx m))))[i]? = some (Sl.o (.q p k1)) := by
      rw [List.getElem?_set_ne (Ne.symm hil), List.getElem?_set_self (List.getElem?_eq_some_iff.mp hi).1]
    have o3 := o2.step hi2 g3 l3
    have hp3 : w3.H pf = some (.lst vs) := Le.h l3 pf _ (show upd (upd w1.H pl (.lst (us.eraseIdx m))) p (VI k3) pf = _ by rw [upd_ne nef, upd_ne nefl]; exact hp1) fun _ z => by cases z
    refine ⟨by show 2 ≤ _; decide, fun q hqn => ?_⟩
    have g4 : Good TB ⟨upd w3.F q (.tup [vy, v2]), upd w3.H q (.tup [vy, v2])⟩ := g3.new hqn fun _ z => by cases z
    have l4 : Le w3 ⟨upd w3.F q (.tup [vy, v2]), upd w3.H q (.tup [vy, v2])⟩ := Le.new hqn (g3.fresh hqn)
    have o4 := o3.mono g4 l4
    have hp4 : upd w3.H q (.tup [vy, v2]) pf = some (.lst vs) := l4.h pf _ hp3 fun _ z => by cases z
    have fl4 : FLe w.F (upd w3.F q (.tup [vy, v2])) := (l1.f.trans f3).trans l4.f
    refine ⟨pf, vs, .ref q, rfl, rfl, hp4, by rw [r.length]; exact size_lt (by omega), ?_⟩
    have hf4 : (((env.set i (Sl.o (.q p k1))).set l (Sl.o (.l (ys.eraseIdx m)))).set i (Sl.o (.q p k3)))[f]? = some (Sl.o (.l xs)) := by
      rw [List.getElem?_set_ne hif, List.getElem?_set_ne (Ne.symm hfl), List.getElem?_set_ne hif]
      exact hf
    have rt : Rep X.K (upd w3.F q (.tup [vy, v2])) (.ref q) (.tup [y, z]) := .tup (.inl (.inl upd_same)) (.cons (ry.mono (f3.trans l4.f)) (.cons (r3.mono l4.f) .nil))
    exact en.nx ⟨_, upd (upd w3.H q (.tup [vy, v2])) pf (.lst (vs ++ [.ref q]))⟩ _ _ (o4.chg (h := .lst (vs ++ [.ref q])) (y := .l (xs ++ [.tup [y, z]])) hf4 s ((r.mono fl4).append (.cons rt .nil))) fl4 hR3
end
end Lw
namespace Lw
open PySem PySem.Spec PyProof.Rows L2
section
variable {TB : Tbs} {X : Cx} {env : List Sl} {a b : Expr} {pos : Pos} {i : Nat} {p : Addr} {k : List Int} {R R' : D → List Int → Prop} {rest : List Stmt} {RO : Out → Prop}
theorem op_c0 {f : Value → Value → Sem Value} {g : Int → Int → V} (h : OpR X f (rI0 g)) : OpR X f (rI (fun _ _ => True) g) := fun pins s σ H x y v u Q I rx ry ⟨i, j, e1, e2, _, q⟩ => h pins s σ H x y v u Q I rx ry ⟨i, j, e1, e2, q⟩
/-- a, b = c, d: both draw -/
theorem sd_parK (i1 j1 : Nat) {m n : Str} {px py pt pt2 : Pos} {kt k2 : Nat} (hi : env[i]? = some (Sl.o (.q p k))) (ha : PK TB X a env p R) (hb : ∀ d k1, R d k1 → PK TB X b (env.set i (Sl.o (.q p k1))) p fun d2 k3 => SD TB X rest (((env.set i (Sl.o (.q p k3))).set i1 (Sl.d d)).set j1 (Sl.d d2)) RO) (nd : X.N.Nodup) (hij : i1 ≠ j1 := by decide) (h1 : X.N[i1]? = some m := by rfl) (h2 : X.N[j1]? = some n := by rfl)
    (hx : X.env.scope.names.lookup m = some .local := by rfl) (hy : X.env.scope.names.lookup n = some .local := by rfl) (hc : X.calm = true := by rfl) (he : starEach [a, b] X.env = (false, eval a X.env) :: starEach [b] X.env := by rfl) (he2 : starEach [b] X.env = (false, eval b X.env) :: starEach [] X.env := by rfl)
    (hw : swappedStores [.Tuple [.Name m px, .Name n py] kt pt] (.Tuple [a, b] k2 pt2) X.env = pure (some [m, n]) := by rfl)
    (hs : swapsWithSole [.Tuple [.Name m px, .Name n py] kt pt] (.Tuple [a, b] k2 pt2) pos.line X.env = pure false := by rfl) :
    SD TB X (.Assign [.Tuple [.Name m px, .Name n py] kt pt] (.Tuple [a, b] k2 pt2) pos :: rest) env RO :=
  sd_cons fun w0 w σ D' o en => runS1 (ps_par hc nd h1 h2 hij hx hy (pa_cons (pe_w a) (pa_cons (pe_w b) pa_nil he2) he) hw hs) (ha w0 w σ _ o fun v1 w1 d1 k1 g1 l1 r1 q1 => by
    have o1 := o.step hi g1 l1
    refine hb d1 k1 q1 w0 w1 σ _ o1 fun v2 w2 d2 k3 g2 l2 r2 q2 => ?_
    have hi1 : (env.set i (Sl.o (.q p k1)))[i]? = some (Sl.o (.q p k1)) := List.getElem?_set_self (List.getElem?_eq_some_iff.mp hi).1
    have o2 := o1.step hi1 g2 l2
    rw [List.set_set] at o2
    exact ⟨_, _, rfl, en.nx w2 _ _ ((o2.set (r1.mono l2.f)).set r2) (l1.f.trans l2.f) q2⟩)
/-- (a, b) = e, e draws -/
theorem sd_unpackK {tg e : Expr} (hi : env[i]? = some (Sl.o (.q p k))) (he : PK TB X e env p R) (hg : ∀ d k', R d k' → ∃ env' is, PGd TB X tg (env.set i (Sl.o (.q p k'))) d env' is ∧ SD TB X rest env' RO) (hs : swapsWithSole [tg] e pos.line X.env = pure false := by rfl) (hw : swappedStores [tg] e X.env = pure none := by rfl) (h1 : (assignEach [tg] X.env).map (·.2) = [assign tg X.env] := by rfl) : SD TB X (.Assign [tg] e pos :: rest) env RO :=
  sd_cons fun w0 w σ D' o en => runS1 (ps_asg (pe_w e) (pg_w tg) hs hw h1) (he w0 w σ _ o fun v w1 d k1 g1 l1 r1 q1 => by
    obtain ⟨env', is, hg, q⟩ := hg d k1 q1
    exact hg w0 w1 σ v _ (o.step hi g1 l1) r1 fun σ' k2 _ => en.nx w1 σ' env' k2 l1.f q)
end
end Lw
set_option Elab.async false
set_option linter.all false
set_option maxRecDepth 100000
set_option maxHeartbeats 4000000
/-! # texts: join, lstrip, rstrip, replace -/
namespace Lw
open PySem PySem.Spec PyProof.Rows L2
/-- an expression behind which a token is out -/
def PE1 (X : Cx) (e : Expr) (t : TE) : Prop := ∀ (pins : List (Addr × Obj)) (s : Shared) (σ : L2.St) (H : Hp) (Q : VK), Inv X pins σ H s → t σ H Q → wpAny (model X.prog X.w) X.A (eval e X.env) (fun v s' => 1 ≤ s'.toks ∧ EP X pins σ Q v s') X.xe s
def tTx (f : Str → Str) (C : Str → Prop) (to : TE) : TE := fun σ H Q => to σ H fun v H1 => ∃ x, v = .str x ∧ C x ∧ Q (.str (f x)) H1
section
variable {X : Cx} {o : Expr} {to : TE} {y z b : Str} {j k : Nat} {c0 c1 apos pos : Pos}
theorem PE1.pe {e : Expr} {t : TE} (h : PE1 X e t) : PE X e t := ⟨fun pins s σ H Q I q => thn (h pins s σ H Q I q) fun v s1 k => k.2⟩
theorem pe1_rstripC (ho : PE X o to) (hst : starEach [.Constant (.str b) j c0] X.env = [(false, eval (.Constant (.str b) j c0) X.env)] := by rfl)
    (hbase : attributeBase o "rstrip" X.env (eval o X.env) = eval o X.env := by rfl) (hline : (apos.endLine == pos.line) = true := by rfl) :
    PE1 X (.Call (.Attribute o "rstrip" apos) [.Constant (.str b) j c0] [] pos) (tTx (fun x => Txt.rstripChars x b) (fun x => x.length ≤ sizeLine) to) := by
  intro pins s σ H Q I h
  refine PySem.Call_method1 hbase hst hline (thn (ho.run pins s σ H _ I h) fun v s1 q => ?_)
  obtain ⟨v', H1, I1, r1, x, e1, hl, q⟩ := q
  subst e1
  obtain ⟨tx, e2⟩ := r1
  subst e2
  refine ⟨"str", _, PySem.F.plainAttrs_str, PySem.F.slot_str_rstrip, PySem.F.type_str_rstrip, typeIs_str _ _ _, (fun _ e => nomatch e), Calls.callWith_builtin rfl (Calls.evalArgs_plain (Calls.spliced_cons ?_))⟩
  refine Calls.Constant_str (Calls.spliced_nil ?_)
  refine wpAny_mono (PySem.wpAny_toks (PySem.SC.rstripChars (Q := fun v s => EP X pins σ Q v s) (fun t' k => ⟨.str _, H1, I1.tok k, ⟨t', rfl⟩, q⟩) hl)) (fun v s2 k => ⟨Nat.le_trans (Nat.succ_le_succ (Nat.zero_le _)) k.1, k.2⟩) fun _ _ k => k.2
theorem pe1_replC (ho : PE1 X o to) (hyz : (y == z) = false := by decide)
    (hst : starEach [.Constant (.str y) j c0, .Constant (.str z) k c1] X.env = [(false, eval (.Constant (.str y) j c0) X.env), (false, eval (.Constant (.str z) k c1) X.env)] := by rfl)
    (hbase : attributeBase o "replace" X.env (eval o X.env) = eval o X.env := by rfl) (hline : (apos.endLine == pos.line) = true := by rfl) :
    PE1 X (.Call (.Attribute o "replace" apos) [.Constant (.str y) j c0, .Constant (.str z) k c1] [] pos) (tTx (fun x => Txt.replace x y z) (fun x => x.length + (x.length + 1) * z.length ≤ 16777216) to) := by
  intro pins s σ H Q I h
  refine PySem.Call_method2 hbase hst hline (thn (ho pins s σ H _ I h) fun v s1 q => ?_)
  obtain ⟨hk, v', H1, I1, r1, x, e1, hb, q⟩ := q
  subst e1
  obtain ⟨tx, e2⟩ := r1
  subst e2
  refine ⟨"str", _, PySem.F.plainAttrs_str, PySem.F.slot_str_replace, PySem.F.type_str_replace, typeIs_str _ _ _, (fun _ e => nomatch e), Calls.callWith_builtin rfl (Calls.evalArgs_plain (Calls.spliced_cons ?_))⟩
  refine Calls.Constant_str (Calls.spliced_cons (Calls.Constant_str (Calls.spliced_nil ?_)))
  refine wpAny_mono (PySem.wpAny_toks (PySem.SC.replace (Q := fun v s => EP X pins σ Q v s) (by show s1.toks ≠ 0; omega) (by show s1.toks + 1 ≠ 0; omega) (by show s1.toks ≠ s1.toks + 1; omega) hyz hb fun t' k => ⟨.str (Txt.replace x y z), H1, I1.tok k, ⟨t', rfl⟩, q⟩)) (fun v s2 k => ⟨Nat.le_trans (Nat.succ_le_succ (Nat.zero_le _)) k.1, k.2⟩) fun _ _ k => k.2
end
section
variable {TB : Tbs} {X : Cx} {env : List Sl} {a b c e : Expr} {x s b1 y1 z1 y2 z2 : Str} {j0 j1 j2 j3 j4 : Nat} {c0 c1 c2 c3 c4 q0 q1 q2 p0 p1 p2 apos pos : Pos}
theorem pd_words (ha : PD TB X a env (.str x)) (hl : x.length ≤ 100000) (h1 : (Txt.rstripChars x b1).length + ((Txt.rstripChars x b1).length + 1) * z1.length ≤ 16777216) (h2 : (Txt.replace (Txt.rstripChars x b1) y1 z1).length + ((Txt.replace (Txt.rstripChars x b1) y1 z1).length + 1) * z2.length ≤ 16777216)
    (hyz1 : (y1 == z1) = false := by decide) (hyz2 : (y2 == z2) = false := by decide)
    (s1 : starEach [.Constant (.str b1) j0 c0] X.env = [(false, eval (.Constant (.str b1) j0 c0) X.env)] := by rfl)
    (s2 : starEach [.Constant (.str y1) j1 c1, .Constant (.str z1) j2 c2] X.env = [(false, eval (.Constant (.str y1) j1 c1) X.env), (false, eval (.Constant (.str z1) j2 c2) X.env)] := by rfl)
    (s3 : starEach [.Constant (.str y2) j3 c3, .Constant (.str z2) j4 c4] X.env = [(false, eval (.Constant (.str y2) j3 c3) X.env), (false, eval (.Constant (.str z2) j4 c4) X.env)] := by rfl)
    (hb1 : attributeBase a "rstrip" X.env (eval a X.env) = eval a X.env := by rfl) (hl1 : (q0.endLine == p0.line) = true := by rfl)
    (hb2 : attributeBase (.Call (.Attribute a "rstrip" q0) [.Constant (.str b1) j0 c0] [] p0) "replace" X.env (eval (.Call (.Attribute a "rstrip" q0) [.Constant (.str b1) j0 c0] [] p0) X.env) = eval (.Call (.Attribute a "rstrip" q0) [.Constant (.str b1) j0 c0] [] p0) X.env := by rfl) (hl2 : (q1.endLine == p1.line) = true := by rfl)
    (hb3 : attributeBase (.Call (.Attribute (.Call (.Attribute a "rstrip" q0) [.Constant (.str b1) j0 c0] [] p0) "replace" q1) [.Constant (.str y1) j1 c1, .Constant (.str z1) j2 c2] [] p1) "replace" X.env (eval (.Call (.Attribute (.Call (.Attribute a "rstrip" q0) [.Constant (.str b1) j0 c0] [] p0) "replace" q1) [.Constant (.str y1) j1 c1, .Constant (.str z1) j2 c2] [] p1) X.env) = eval (.Call (.Attribute (.Call (.Attribute a "rstrip" q0) [.Constant (.str b1) j0 c0] [] p0) "replace" q1) [.Constant (.str y1) j1 c1, .Constant (.str z1) j2 c2] [] p1) X.env := by rfl) (hl3 : (q2.endLine == p2.line) = true := by rfl) :
    PD TB X (.Call (.Attribute (.Call (.Attribute (.Call (.Attribute a "rstrip" q0) [.Constant (.str b1) j0 c0] [] p0) "replace" q1) [.Constant (.str y1) j1 c1, .Constant (.str z1) j2 c2] [] p1) "replace" q2) [.Constant (.str y2) j3 c3, .Constant (.str z2) j4 c4] [] p2) env (.str (Txt.replace (Txt.replace (Txt.rstripChars x b1) y1 z1) y2 z2)) := fun w0 w σ Q k q =>
  runE (pe1_replC (pe1_replC (pe1_rstripC (pe_w a) s1 hb1 hl1) hyz1 s2 hb2 hl2) hyz2 s3 hb3 hl3).pe (ha w0 w σ _ k fun v w1 g1 l1 r1 => by
    cases r1
    exact ⟨x, rfl, size_small hl, _, rfl, h1, _, rfl, h2, q _ w1 g1 l1 .str⟩)
theorem pd_lstrip (ha : PD TB X a env (.str x)) (hb : PD TB X b env (.str s)) (hl : x.length ≤ 100000)
    (hbase : attributeBase a "lstrip" X.env (eval a X.env) = eval a X.env := by rfl) (hs : starEach [b] X.env = [(false, eval b X.env)] := by rfl) (hline : (apos.endLine == pos.line) = true := by rfl) : PD TB X (.Call (.Attribute a "lstrip" apos) [b] [] pos) env (.str (Txt.lstripChars x s)) := fun w0 w σ Q k q =>
  runE (pe_m1 F.slot_str_lstrip F.type_str_lstrip mt_lstripChars (pe_w a) (pe_w b) hs hbase hline) (ha w0 w σ _ k fun v w1 g1 l1 r1 => by
    cases r1
    refine ⟨⟨x, rfl⟩, hb w0 w1 σ _ (k.mono g1 l1) fun u w2 g2 l2 r2 => ?_⟩
    cases r2
    exact ⟨x, s, rfl, rfl, size_small hl, q _ w2 g2 (l1.trans l2) .str⟩)
theorem pd_join {ys : List Str} (ha : PD TB X a env (.str s)) (hb : PD TB X b env (.lst (ys.map D.str))) (hl : (ys.map (·.length)).sum + ys.length * s.length ≤ 16777216)
    (hbase : attributeBase a "join" X.env (eval a X.env) = eval a X.env := by rfl) (hs : starEach [b] X.env = [(false, eval b X.env)] := by rfl) (hline : (apos.endLine == pos.line) = true := by rfl) : PD TB X (.Call (.Attribute a "join" apos) [b] [] pos) env (.str (Txt.join s ys)) := fun w0 w σ Q k q =>
  runE (pe_join (pe_w a) (pe_w b) hs hbase hline) (ha w0 w σ _ k fun v w1 g1 l1 r1 => by
    cases r1
    refine ⟨⟨s, rfl⟩, hb w0 w1 σ _ (k.mono g1 l1) fun u w2 g2 l2 r2 => ?_⟩
    cases r2 with
    | lst h1 h2 =>
      have e := reps_strs h2
      subst e
      exact ⟨s, _, ys, rfl, rfl, .inl (.inl (.inl (g2.sub _ _ h1))), hl, q _ w2 g2 (l1.trans l2) .str⟩)
end
/-! ### what they come to -/
abbrev sOf (l : List Nat) : Str := ⟨l.toArray⟩
theorem sOf_len (l : List Nat) : (sOf l).length = l.length := by simp [sOf, Str.length]
theorem strip_left (goes : Nat → Bool) (l : List Nat) : Txt.stripBy goes true false (sOf l) = sOf (l.dropWhile goes) := by
  have e : stripped goes true false (sOf l) = sOf (l.dropWhile goes) := by
    unfold stripped
    have e1 : stripLo goes true (sOf l) = (l.takeWhile goes).length := rfl
    have e2 : stripHi goes false (sOf l) (stripLo goes true (sOf l)) = l.length := sOf_len l
    rw [e1] at e2 ⊢
    rw [e2]
    refine TL.ext_tl ?_
    show (l.toArray.extract _ _).toList = _
    rw [Array.toList_extract]
    show (l.extract _ _) = l.dropWhile goes
    rw [List.extract_eq_take_drop, List.take_of_length_le (by rw [List.length_drop]; exact Nat.le_refl _)]
    have k3 : l = l.takeWhile goes ++ l.dropWhile goes := List.takeWhile_append_dropWhile.symm
    have gen : ∀ (a b : List Nat), l = a ++ b → l.drop a.length = b := fun a b e => by
      rw [e]
      exact List.drop_left
    exact gen _ _ k3
  unfold Txt.stripBy
  split
  · rename_i h
    unfold stripSame at h
    rw [Bool.and_eq_true] at h
    have h1 : (l.takeWhile goes).length = 0 := of_decide_eq_true h.1
    have h2 : l.takeWhile goes = [] := List.length_eq_zero_iff.mp h1
    have h3 : l = l.takeWhile goes ++ l.dropWhile goes := List.takeWhile_append_dropWhile.symm
    rw [h2, List.nil_append] at h3
    rw [← h3]
  · exact e
theorem strip_right (goes : Nat → Bool) (l : List Nat) : Txt.stripBy goes false true (sOf l) = sOf (l.reverse.dropWhile goes).reverse := by
  have k0 : l.reverse = l.reverse.takeWhile goes ++ l.reverse.dropWhile goes := List.takeWhile_append_dropWhile.symm
  have key : l = (l.reverse.dropWhile goes).reverse ++ (l.reverse.takeWhile goes).reverse := by
    have := congrArg List.reverse k0
    rw [List.reverse_reverse, List.reverse_append] at this
    exact this
  have e : stripped goes false true (sOf l) = sOf (l.reverse.dropWhile goes).reverse := by
    unfold stripped
    have e1 : stripLo goes false (sOf l) = 0 := rfl
    have e2 : stripHi goes true (sOf l) 0 = l.length - (l.reverse.takeWhile goes).length := by
      show (sOf l).length - _ = _
      rw [sOf_len]
      rfl
    rw [e1, e2]
    refine TL.ext_tl ?_
    show (l.toArray.extract _ _).toList = _
    rw [Array.toList_extract]
    show (l.extract _ _) = (l.reverse.dropWhile goes).reverse
    rw [List.extract_eq_take_drop, List.drop_zero, Nat.sub_zero]
    have hl : l.length - (l.reverse.takeWhile goes).length = (l.reverse.dropWhile goes).reverse.length := by
      have := congrArg List.length key
      rw [List.length_append, List.length_reverse, List.length_reverse] at this
      rw [List.length_reverse]
      omega
    rw [hl]
    conv => lhs; rw [key]
    rw [List.reverse_append, List.reverse_reverse, List.reverse_reverse]
    rw [List.takeWhile_append_dropWhile]
    exact List.take_left
  unfold Txt.stripBy
  split
  · rename_i h
    unfold stripSame at h
    rw [Bool.and_eq_true] at h
    have h1 : l.length - (l.reverse.takeWhile goes).length = l.length := by
      have := h.2
      have e1 : stripLo goes false (sOf l) = 0 := rfl
      rw [e1] at this
      have e2 : stripHi goes true (sOf l) 0 = l.length - (l.reverse.takeWhile goes).length := by
        show (sOf l).length - _ = _
        rw [sOf_len]
        rfl
      rw [e2, sOf_len] at this
      simpa using this
    have h2 : l.reverse.takeWhile goes = [] := by
      have hle : (l.reverse.takeWhile goes).length ≤ l.length := by
        have := congrArg List.length k0
        rw [List.length_append, List.length_reverse] at this
        omega
      have hz : (l.reverse.takeWhile goes).length = 0 := by
        by_cases h0 : l.length = 0
        · omega
        · omega
      exact List.length_eq_zero_iff.mp hz
    rw [h2, List.reverse_nil, List.append_nil] at key
    rw [← key]
  · exact e
theorem joinL_nil : ∀ ps : List (List Nat), TL.joinL [] ps = ps.flatten
  | [] => rfl
  | [p] => by simp [TL.joinL]
  | p :: q :: r => by
    show p ++ ([] ++ TL.joinL [] (q :: r)) = _
    rw [joinL_nil (q :: r)]
    simp
theorem join_nil (ys : List (List Nat)) : Txt.join (sOf []) (ys.map sOf) = sOf ys.flatten := by
  rw [TL.join_eq]
  refine TL.ext_tl ?_
  rw [TL.tl_join]
  show TL.joinL [] _ = ys.flatten
  rw [joinL_nil, List.map_map]
  congr 1
  exact List.map_id' _
theorem repl_one (c : Nat) : ∀ l : List Nat, StrLaws.replL [c] [] l = l.filter (· != c)
  | [] => StrLaws.replL_nil
  | d :: l => by
    by_cases h : d = c
    · subst h
      rw [StrLaws.replL_hit (by simp) (by simp)]
      simp [repl_one d l]
    · rw [StrLaws.replL_miss (by simp [h]), repl_one c l]
      simp [h]
theorem replace_one (c : Nat) (l : List Nat) : Txt.replace (sOf l) (sOf [c]) (sOf []) = sOf (l.filter (· != c)) := by
  refine TL.ext_tl ?_
  show (Txt.replace (sOf l) (sOf [c]) (sOf [])).cps.toList = _
  rw [StrLaws.replace_list (by rw [sOf_len]; exact Nat.le_refl _)]
  exact repl_one c l
theorem c115 : (#[115] : Array Nat).contains 115 = true := by decide +kernel
theorem c99 : ¬ (#[115] : Array Nat).contains 99 = true := by decide +kernel
theorem c114 : ¬ (#[115] : Array Nat).contains 114 = true := by decide +kernel
theorem dw_rep (m : List Nat) : ∀ n : Nat, (List.replicate n 115 ++ m).dropWhile (#[115] : Array Nat).contains = m.dropWhile (#[115] : Array Nat).contains
  | 0 => by simp
  | n + 1 => by
    rw [List.replicate_succ, List.cons_append, List.dropWhile_cons]
    rw [if_pos c115]
    exact dw_rep m n
/-- s..s, clicks and ranges, s..s: nothing is left -/
theorem words_l (a b : Nat) (ks : List Nat) (h : ∀ k ∈ ks, k = 99 ∨ k = 114) : Txt.lstripChars (sOf (List.replicate a 115 ++ ks ++ List.replicate b 115)) (sOf [115]) = sOf (ks ++ if ks = [] then [] else List.replicate b 115) := by
  refine (strip_left _ _).trans (congrArg sOf ?_)
  show List.dropWhile (#[115] : Array Nat).contains _ = _
  rw [List.append_assoc, dw_rep]
  cases ks with
  | nil =>
    have := dw_rep [] b
    rw [List.append_nil] at this
    simpa using this
  | cons k ks =>
    have hk := h k List.mem_cons_self
    rw [List.cons_append, List.dropWhile_cons, if_neg (by rcases hk with rfl | rfl; exact c99; exact c114)]
    simp
theorem words_r (b : Nat) (ks : List Nat) (h : ∀ k ∈ ks, k = 99 ∨ k = 114) : Txt.rstripChars (sOf (ks ++ if ks = [] then [] else List.replicate b 115)) (sOf [115]) = sOf ks := by
  refine (strip_right _ _).trans (congrArg sOf ?_)
  show (List.dropWhile (#[115] : Array Nat).contains _).reverse = _
  split
  · rename_i h0
    subst h0
    rfl
  · rename_i h0
    rw [List.reverse_append, List.reverse_replicate, dw_rep]
    rcases List.eq_nil_or_concat ks with z | ⟨l, k, rfl⟩
    · exact absurd z h0
    · have hk := h k (by simp)
      rw [List.concat_eq_append, List.reverse_append]
      show (List.dropWhile _ (k :: l.reverse)).reverse = _
      rw [List.dropWhile_cons, if_neg (by rcases hk with rfl | rfl; exact c99; exact c114)]
      simp
theorem words_2 (ks : List Nat) (h : ∀ k ∈ ks, k = 99 ∨ k = 114) : Txt.replace (Txt.replace (sOf ks) (sOf [99]) (sOf [])) (sOf [114]) (sOf []) = sOf [] := by
  rw [replace_one, replace_one]
  refine congrArg sOf ?_
  rw [List.filter_filter]
  refine List.filter_eq_nil_iff.mpr fun k hk => ?_
  rcases h k hk with rfl | rfl <;> decide
theorem w_s : ("s" : Str) = sOf [115] := by decide +kernel
theorem w_c : ("c" : Str) = sOf [99] := by decide +kernel
theorem w_r : ("r" : Str) = sOf [114] := by decide +kernel
theorem w_0 : ("" : Str) = sOf [] := by decide +kernel
end Lw
set_option Elab.async false
set_option linter.all false
set_option maxRecDepth 100000
set_option maxHeartbeats 4000000
/-! # x = list(range(n)) of one's own; the script as a list of ints at a known place; the law's own def -/
namespace Lw
open PySem PySem.Spec PyProof.Rows L2
section
variable {TB : Tbs} {X : Cx} {env : List Sl} {a b c e tg : Expr} {es : List Expr} {x y : D} {ds xs : List D} {pos ps p : Pos} {R : Out → Prop} {rest : List Stmt}
theorem sd_ownRg (i : Nat) {n : Nat} {m : Str} {p2 p3 p' spos : Pos} (hm : X.mg "list" = none) (hm2 : X.mg "range" = none) (ha : PD TB X a env (.int n)) (hn : n ≤ 100000) (q : SD TB X rest (env.set i (Sl.o (.l (rgD n)))) R) (nd : X.N.Nodup) (hi : X.N[i]? = some m := by rfl) (hx : Loc X.env.scope m := by first | exact Or.inl rfl | exact Or.inr rfl)
    (hc : X.calm = true := by rfl) (hg : Gl X "list" := by rfl) (hg2 : Gl X "range" := by rfl)
    (he : starEach [a] X.env = (false, eval a X.env) :: starEach [] X.env := by rfl)
    (he2 : starEach [Expr.Call (.Name "range" p2) [a] [] p3] X.env = (false, eval (.Call (.Name "range" p2) [a] [] p3) X.env) :: starEach [] X.env := by rfl)
    (hs : swapsWith (.Call (.Name "list" p) [.Call (.Name "range" p2) [a] [] p3] [] pos) (some (.Name m p')) spos.line X.env = pure false := by rfl) (hf : X.fn m = true ∨ X.env.scope.names.lookup m = some .local := by first | exact .inl rfl | exact .inr rfl) :
    SD TB X (.Assign [.Name m p'] (.Call (.Name "list" p) [.Call (.Name "range" p2) [a] [] p3] [] pos) spos :: rest) env R :=
  sd_cons fun w0 w σ D' k en => runS1 (ps_set nd hi hx (pe_listRg hc hg hm (prg_1 hg2 hm2 (pe_w a) he) he2) hs hf) (ha w0 w σ _ k fun v w1 g1 l1 r1 => by
    cases r1
    refine ⟨(n : Int), rfl, ⟨by omega, by omega, by omega, by omega, by omega⟩, fun q' hq => ?_⟩
    exact en.nx ⟨w1.F, upd w1.H q' _⟩ _ _ ((k.mono g1 l1).lay hq (show OOk X.K w1.F q' _ (.l (rgD n)) from reps_rg n)) l1.f q)
end
end Lw
set_option Elab.async false
set_option linter.all false
set_option maxRecDepth 100000
set_option maxHeartbeats 4000000
/-! # an if whose ways meet again -/
namespace Lw
open PySem PySem.Spec PyProof.Rows L2
def Jn (env' : List Sl) : Out → Prop
  | .nx m => Weak m env'
  | _ => False
section
variable {TB : Tbs} {X : Cx} {env : List Sl} {c : Expr} {pos : Pos} {t : Bool} {rest body els : List Stmt} {R : Out → Prop}
/-- behind both ways the slot j holds x -/
theorem sd_ifSet (j : Nat) (x : D) (hc : PTd TB X c env t) (ha : t = true → SD TB X body env (Jn (env.set j (Sl.d x)))) (hb : t = false → SD TB X els env (Jn (env.set j (Sl.d x)))) (q : SD TB X rest (env.set j (Sl.d x)) R) : SD TB X (.If c body els pos :: rest) env R :=
  have hm : ∀ o, Jn (env.set j (Sl.d x)) o → Sq TB X rest R o := fun o h => by
    cases o with
    | nx m => exact sd_weak h q
    | _ => exact h.elim
  sd_if hc (fun z => (ha z).mono hm) fun z => (hb z).mono hm
end
end Lw
namespace Lw
open PySem PySem.Spec PyProof.Rows L2
/-- the slots written out -/
theorem sd_as {TB : Tbs} {X : Cx} {env : List Sl} {st : List Stmt} {R : Out → Prop} (env' : List Sl) (q : SD TB X st env' R) (h : env = env' := by rfl) : SD TB X st env R := h ▸ q
end Lw
set_option Elab.async false
set_option linter.all false
set_option maxRecDepth 100000
set_option maxHeartbeats 4000000
/-! # the law's own def: the script is a list of ints that is not ours -/
namespace Lw
open PySem PySem.Spec PyProof.Rows L2
structure FnX (P : Program) (w : World) (K : PySem.W.Frag) (mg : Str → Option Value) (base : Heap) (n : Str) (ps : List Str) (kk : Nat) (sp : Sp) : Prop where
  ex : ∃ (f : Addr) (fd : FuncData), mg n = some (.ref f) ∧ PySem.W.keepIn K (.ref f) = true ∧ Binds K fd ps [] ∧ FnOk P w K mg base CX0 kk f fd ps sp
abbrev E0h : Hp := fun _ => none
def spO (TB : Tbs) (K : PySem.W.Frag) : Sp := fun vs H Q _ =>
  ∃ (p : Addr) (ns : List Int), vs = [.ref p, .int 0] ∧ SqL K H p (ns.map V.int) ∧ LamX.Tabs TB H ∧
    ∀ v w' (a b : Int), 0 ≤ a → (0 ≤ b ∧ b < 10 ^ 40) → Good TB w' → Le ⟨E0h, H⟩ w' → Rep K w'.F v (.lst [.int a, .int b, .int 0]) → Q v w'.H
def spL (TB : Tbs) (K : PySem.W.Frag) : Sp := fun vs H Q _ => ∃ (p : Addr) (ns : List Int), vs = [.ref p] ∧ SqL K H p (ns.map V.int) ∧ LamX.Tabs TB H ∧ ∀ H', Q (.bl true) H'
theorem good0 {TB : Tbs} {H : Hp} (t : LamX.Tabs TB H) : Good TB ⟨E0h, H⟩ := ⟨fun a o e => (nomatch e), fun a ps e => (nomatch e), t⟩
section
variable {X : Cx} {st : Stmt} {rest body els : List Stmt} {D' : Ends} {σ : L2.St} {H : Hp} {a b c e : Expr} {pos ps pn p' : Pos} {n : Str} {t : TE}
theorem rs_cons (h : RunS1 X st { D' with nx := fun σ' H' => RunS X rest D' σ' H' } σ H) : RunS X (st :: rest) D' σ H := runS (pss_cons (ps_w st) (pss_w rest)) h
theorem rs_set (i : Nat) (q : RunE X e σ H fun v H' => RunS X rest D' (σ.set i (some v)) H') (nd : X.N.Nodup) (hi : X.N[i]? = some n := by rfl) (hx : Loc X.env.scope n := by first | exact Or.inl rfl | exact Or.inr rfl)
    (hs : swapsWith e (some (.Name n p')) pos.line X.env = pure false := by rfl) (hf : X.fn n = true ∨ X.env.scope.names.lookup n = some .local := by first | exact .inl rfl | exact .inr rfl) : RunS X (.Assign [.Name n p'] e pos :: rest) D' σ H :=
  rs_cons (runS1 (ps_set nd hi hx (pe_w e) hs hf) q)
theorem rs_if {t : Bool} (hc : ∀ Q : Bool → Hp → Prop, Q t H → RunT X c σ H Q) (ha : t = true → RunS X body { D' with nx := fun σ' H' => RunS X rest D' σ' H' } σ H) (hb : t = false → RunS X els { D' with nx := fun σ' H' => RunS X rest D' σ' H' } σ H) : RunS X (.If c body els pos :: rest) D' σ H :=
  rs_cons (runS1 (ps_if (pt_w c) (pss_w body) (pss_w els)) (hc _ (by
    cases t with
    | true => exact iteT (ha rfl)
    | false => exact iteF (hb rfl))))
theorem rs_nil (h : D'.nx σ H) : RunS X [] D' σ H := runS pss_nil h
theorem re_var (i : Nat) {v : V} {Q : VK} (h : σ[i]? = some (some v)) (q : Q v H) (hN : X.N[i]? = some n := by rfl) (hv : Vis X.env.scope n := by first | exact Or.inl rfl | exact Or.inr (Or.inl rfl) | exact Or.inr (Or.inr rfl)) (hd : (n == ("__debug__" : Str)) = false := by decide) (hcd : (n == ("__classdict__" : Str)) = false := by decide) : RunE X (.Name n pn) σ H Q := runE (pe_var hN hv hd hcd) ⟨v, h, q⟩
theorem re_len (i : Nat) {p : Addr} {vs : List V} {Q : VK} (hm : X.mg "len" = none) (h : σ[i]? = some (some (.ref p))) (hs : SqL X.K H p vs) (q : Q (.int vs.length) H) (hN : X.N[i]? = some n := by rfl) (hv : Vis X.env.scope n := by first | exact Or.inl rfl | exact Or.inr (Or.inl rfl) | exact Or.inr (Or.inr rfl)) (hd : (n == ("__debug__" : Str)) = false := by decide) (hcd : (n == ("__classdict__" : Str)) = false := by decide)
    (hg : Gl X "len" := by rfl) (he : starEach [Expr.Name n pn] X.env = (false, eval (Expr.Name n pn) X.env) :: starEach [] X.env := by rfl) (hpl : (backTo pos (starEach [] X.env)).any (·.1) = false := by rfl) : RunE X (.Call (.Name "len" ps) [.Name n pn] [] pos) σ H Q :=
  runE (pe_callB call_len_seq hg hm PySem.boot_len (pa_cons (pe_var hN hv hd hcd) pa_nil he) (by decide) (by decide) he hpl) ⟨.ref p, h, p, vs, rfl, .inl hs, q⟩
theorem re_ix (i : Nat) {p : Addr} {vs : List V} {j : Int} {v : V} {Q : VK} (h : σ[i]? = some (some (.ref p))) (hs : SqL X.K H p vs) (hb : ∀ Q : VK, Q (.int j) H → RunE X b σ H Q) (hj : atI vs j = some v) (q : Q v H) (hN : X.N[i]? = some n := by rfl) (hv : Vis X.env.scope n := by first | exact Or.inl rfl | exact Or.inr (Or.inl rfl) | exact Or.inr (Or.inr rfl)) (hd : (n == ("__debug__" : Str)) = false := by decide) (hcd : (n == ("__classdict__" : Str)) = false := by decide)
    (hpl : PlainIx b := by exact fun _ _ => rfl) : RunE X (.Subscript (.Name n pn) b pos) σ H Q :=
  runE (pe_ix ix_list (pe_var hN hv hd hcd) (pe_w b) hpl) ⟨.ref p, h, hb _ ⟨p, vs, j, v, rfl, rfl, hs, hj, q⟩⟩
theorem rt_lt {i j : Int} {t : Bool} (ht : decide (i < j) = t) (ha : ∀ Q : VK, Q (.int i) H → RunE X a σ H Q) (hb : ∀ Q : VK, Q (.int j) H → RunE X b σ H Q) (hm : behindInMarks .Lt b = false := by first | exact nobehind _ (by decide) (by decide) | rfl) : ∀ Q : Bool → Hp → Prop, Q t H → RunT X (.Compare a [.Lt] [b] pos) σ H Q := fun Q q =>
  runT (pt_cmp (pc_op op_lt (pe_w a) (pe_w b)) hm) (ha _ (hb _ ⟨i, j, rfl, rfl, t, congrArg V.bl ht, q⟩))
end
section
variable {X : Cx} {TB : Tbs} {σ : L2.St} {H : Hp} {i : Nat} {p : Addr} {xs : List Int} {f1 f2 n : Str} {ps1 ps2 : List Str} {k1 k2 j0 : Nat} {pn q1 q2 q3 q4 q5 : Pos} {Q : VK}
theorem re_law (G1 : FnK TB X.prog X.w X.K X.mg X.base f1 ps1 k1 60 (fun ds => ds = [] ∧ True) (fun ds r => ds = [] ∧ r = .bl true ∧ True)) (G2 : FnX X.prog X.w X.K X.mg X.base f2 ps2 k2 (spO TB X.K)) (hr1 : Room k1 X.A) (hr2 : Room k2 X.A)
    (h : σ[i]? = some (some (.ref p))) (hs : SqL X.K H p (xs.map V.int)) (ht : LamX.Tabs TB H) (q : ∀ H', Q (.bl true) H')
    (hg1 : Gl X f1 := by rfl) (hg2 : Gl X f2 := by rfl) (hN : X.N[i]? = some n := by rfl) (hv : Vis X.env.scope n := by first | exact Or.inl rfl | exact Or.inr (Or.inl rfl) | exact Or.inr (Or.inr rfl)) (hd : (n == ("__debug__" : Str)) = false := by decide) (hcd : (n == ("__classdict__" : Str)) = false := by decide)
    (hdb1 : (f1 == ("__debug__" : Str)) = false := by decide) (hdb2 : (f2 == ("__debug__" : Str)) = false := by decide)
    (he1 : starEach [Expr.Call (.Name f2 q2) [.Name n pn, .Constant (.int 0) j0 q3] [] q4] X.env = (false, eval (Expr.Call (.Name f2 q2) [.Name n pn, .Constant (.int 0) j0 q3] [] q4) X.env) :: starEach [] X.env := by rfl)
    (he2 : starEach [Expr.Name n pn, .Constant (.int 0) j0 q3] X.env = (false, eval (Expr.Name n pn) X.env) :: starEach [.Constant (.int 0) j0 q3] X.env := by rfl)
    (he3 : starEach [Expr.Constant (.int 0) j0 q3] X.env = (false, eval (Expr.Constant (.int 0) j0 q3) X.env) :: starEach [] X.env := by rfl)
    (hpl1 : (backTo q5 (starEach [] X.env)).any (·.1) = false := by rfl) (hpl2 : (backTo q4 (starEach [Expr.Constant (.int 0) j0 q3] X.env)).any (·.1) = false := by rfl) :
    RunE X (.Call (.Name f1 q1) [.Call (.Name f2 q2) [.Name n pn, .Constant (.int 0) j0 q3] [] q4] [] q5) σ H Q := by
  obtain ⟨a1, fd1, hm1, kp1, hb1, F1⟩ := G1.ex
  obtain ⟨a2, fd2, hm2, kp2, hb2, F2⟩ := G2.ex
  refine runE (pe_call F1 hr1 hg1 hm1 kp1 hb1 .nil pass0 (pa_cons (pe_call F2 hr2 hg2 hm2 kp2 hb2 .nil pass0 (pa_cons (pe_var hN hv hd hcd) (pa_cons pe_int pa_nil he3) he2) hdb2 he2 hpl2) pa_nil he1) hdb1 he1 hpl1) ⟨.ref p, h, ?_⟩
  refine ⟨p, xs, rfl, hs, ht, fun v w1 a b ha hb g1 l1 r1 => ?_⟩
  cases r1 with
  | lst h1 h2 =>
    rename_i pd vs
    have e : vs = [.int a, .int b, .int 0] := reps_ints (bs := [a, b, 0]) h2
    subst e
    refine ⟨E0h, pd, [], [], [a, b, 0], 0, rfl, good0 g1.tb, rfl, g1.sub _ _ h1, ⟨a, b, 0, rfl, ha, hb, Int.le_refl _, by decide⟩, by decide, .nil, ⟨rfl, True.intro⟩, fun v2 w2 k2 r hk2 hφ g2 l2 r2 => ?_⟩
    obtain ⟨_, rfl, _⟩ := hφ
    cases r2
    exact q _
end
end Lw
set_option Elab.async false
set_option linter.all false
set_option maxRecDepth 100000
set_option maxHeartbeats 4000000
/-! # defs that draw -/
namespace Lw
open PySem PySem.Spec PyProof.Rows L2
section
variable {TB : Tbs} {P : Program} {w : World} {K : PySem.W.Frag} {mg : Str → Option Value} {base : Heap} {Za : Ads}
theorem F__law_draw (Z : Fx TB w K mg base Za) : FnK TB P w K mg base "_law_draw" ["_law_deck", "_law_many"] 1 1 (fun ds => ∃ (many : Int), ds = [.int many] ∧ (1 ≤ many ∧ many < 2 ^ 64)) (fun ds r => ∃ (many : Int) (x : Int), ds = [.int many] ∧ r = .int x ∧ (0 ≤ x ∧ x < many)) :=
  FnK.mk' (N := ["_law_deck", "_law_many", "_law_taken", "_law_stir"]) Z._law_draw ⟨rfl, rfl, rfl, by decide +kernel, rfl, by decide +kernel, by decide +kernel⟩ (by
    rintro ds ⟨many, rfl, h⟩
    rfl) fun f cdv A outer s0 H0 E hr pk ds k0 n0 hpre hk hn => by
    obtain ⟨many, rfl, h⟩ := hpre
    have nd : (["_law_deck", "_law_many", "_law_taken", "_law_stir"] : List Str).Nodup := by decide +kernel
    obtain ⟨h1, h2⟩ := h
    obtain ⟨a, b, c, rfl, ha, ⟨hb, hb2⟩, hc, hcn⟩ := hk
    have hmany : CDivW a many := ⟨by omega, Nat.lt_of_lt_of_le ((Nat.log2_lt (by omega)).mpr (show many.natAbs < 2 ^ 64 by omega)) (by decide)⟩
    by_cases h0 : 0 < a
    · refine sd_when (t := true) ((pt_c (pcd_gt (pd_ixq 0 rfl pd_int (atI0 _ _)) pd_int)).cast (decide_eq_true h0)) (fun _ => ?_) fun z => by cases z
      refine sd_set 2 (pd_mod (pd_intI Z.bl.int (pd_ixq 0 rfl pd_int (atI0 _ _))) (pd_var 1) (by omega)) ?_ nd
      refine sd_setQ 0 0 rfl (pd_fdivW (pd_ixq 0 rfl pd_int (atI0 _ _)) (pd_var 1) hmany) pd_int rfl ?_
      exact sd_ret (pd_var 2) ⟨_, rfl, ⟨many, a % many, rfl, rfl, Int.emod_nonneg _ (by omega), Int.emod_lt_of_pos _ (by omega)⟩, a / many, b, c, rfl, Int.ediv_nonneg ha (by omega), ⟨hb, hb2⟩, hc, by omega⟩
    · refine sd_when (t := false) ((pt_c (pcd_gt (pd_ixq 0 rfl pd_int (atI0 _ _)) pd_int)).cast (decide_eq_false h0)) (fun z => by cases z) fun _ => ?_
      have e64 : (2 : Int) ^ 64 = 18446744073709551616 := by decide
      refine sd_setQ 0 2 rfl (pd_add (pd_ixq 0 rfl pd_int (atI2 _ _ _ _)) pd_int) pd_int rfl ?_
      have hc1 : c + 1 ≤ 401 := by omega
      refine sd_set 3 (pd_mod (pd_intI Z.bl.int (pd_add (pd_mul (pd_ixq 0 rfl pd_int (atI1 _ _ _)) (pd_add pd_int (pd_mul pd_int (pd_ixq 0 rfl pd_int (atI2 _ _ _ _)) (.inl (by omega)))) (.inr (by omega))) (pd_mul (pd_mul pd_int (pd_ixq 0 rfl pd_int (atI2 _ _ _ _)) (.inl (by omega))) (pd_ixq 0 rfl pd_int (atI2 _ _ _ _)) (.inr (by omega))))) pd_int (by decide)) ?_ nd
      generalize hs1 : (b * (48611 + 2 * (c + 1)) + 104729 * (c + 1) * (c + 1)) % 1000000000000000003 = s1
      have hs1' : 0 ≤ s1 ∧ s1 < 1000000000000000003 := by rw [← hs1]; exact ⟨Int.emod_nonneg _ (by decide), Int.emod_lt_of_pos _ (by decide)⟩
      refine sd_set 3 (pd_mod (pd_intI Z.bl.int (pd_add (pd_add (pd_mul (pd_var 3) (pd_var 3) (.inl (by omega))) (pd_mul pd_int (pd_ixq 0 rfl pd_int (atI2 _ _ _ _)) (.inl (by omega)))) (pd_ixq 0 rfl pd_int (atI1 _ _ _)))) pd_int (by decide)) ?_ nd
      generalize hs2 : (s1 * s1 + 611953 * (c + 1) + b) % 2305843009213693951 = s2
      have hs2' : 0 ≤ s2 ∧ s2 < 2305843009213693951 := by rw [← hs2]; exact ⟨Int.emod_nonneg _ (by decide), Int.emod_lt_of_pos _ (by decide)⟩
      refine sd_set 3 (pd_mod (pd_intI Z.bl.int (pd_add (pd_mul (pd_mul (pd_var 3) (pd_var 3) (.inl (by omega))) (pd_var 3) (.inr (by omega))) (pd_mul pd_int (pd_ixq 0 rfl pd_int (atI2 _ _ _ _)) (.inl (by omega))))) pd_int (by decide)) ?_ nd
      generalize hs3 : (s2 * s2 * s2 + 7368787 * (c + 1)) % 1000000000000000009 = s3
      have hs3' : 0 ≤ s3 ∧ s3 < 1000000000000000009 := by rw [← hs3]; exact ⟨Int.emod_nonneg _ (by decide), Int.emod_lt_of_pos _ (by decide)⟩
      exact sd_ret (pd_mod (pd_intI Z.bl.int (pd_fdiv (pd_var 3) pd_int ⟨by decide, by decide⟩)) (pd_var 1) (by omega)) ⟨_, rfl, ⟨many, _, rfl, rfl, Int.emod_nonneg _ (by omega), Int.emod_lt_of_pos _ (by omega)⟩, a, b, c + 1, rfl, ha, ⟨hb, hb2⟩, by omega, by omega⟩
end
end Lw
set_option Elab.async false
set_option linter.all false
set_option maxRecDepth 100000
set_option maxHeartbeats 4000000
/-! # rows, clicks, keys that are drawn -/
namespace Lw
open PySem PySem.Spec PyProof.Rows L2
theorem DkOk.at {m n : Nat} {k : List Int} (h : DkOk m k) (e : m = n) : DkOk n k := e ▸ h
/-- what a draw gives -/
def drR (N : Nat) (many : Int) : D → List Int → Prop := fun d k' => ∃ x : Int, d = .int x ∧ (0 ≤ x ∧ x < many) ∧ DkOk N k'
theorem dr_of {n : Nat} {many : Int} {d : D} {k' : List Int} (h : ∃ many' x : Int, [D.int many] = [D.int many'] ∧ d = .int x ∧ (0 ≤ x ∧ x < many')) (h2 : DkOk (n + 1) k') : drR (n + 1) many d k' := by
  obtain ⟨m, x, e1, e2, e3⟩ := h
  cases e1
  exact ⟨x, e2, e3, h2⟩
section
variable {TB : Tbs} {P : Program} {w : World} {K : PySem.W.Frag} {mg : Str → Option Value} {base : Heap} {Za : Ads}
theorem F__law_clicks (Z : Fx TB w K mg base Za) : FnK TB P w K mg base "_law_clicks" ["_law_deck", "_law_width", "_law_most"] 2 7 (fun ds => ∃ (wd : Nat), ds = [.int wd, .int 3] ∧ (1 ≤ wd ∧ wd ≤ 2)) (fun ds r => ∃ (wd : Nat) (cs : List Int), ds = [.int wd, .int 3] ∧ r = eIs cs ∧ (cs.length ≤ 3 ∧ ∀ c ∈ cs, 0 ≤ c ∧ c < wd)) :=
  FnK.mk' (N := ["_law_deck", "_law_width", "_law_most", "_law_found", "_law_turn", "_law_column"]) Z._law_clicks ⟨rfl, rfl, rfl, by decide +kernel, rfl, by decide +kernel, by decide +kernel⟩ (by
    rintro ds ⟨wd, rfl, h⟩
    rfl) fun f cdv A outer s0 H0 E hr pk ds k0 n0 hpre hk hn => by
    obtain ⟨wd, rfl, h⟩ := hpre
    have nd : (["_law_deck", "_law_width", "_law_most", "_law_found", "_law_turn", "_law_column"] : List Str).Nodup := by decide +kernel
    obtain ⟨hw1, hw2⟩ := h
    have e64 : (2 : Int) ^ 64 = 18446744073709551616 := by decide
    have hul := hr.units
    refine sd_own 3 ?_ nd
    refine sd_forK (i := 0) (R := drR (n0 + 1) (3 + 1)) (fun n j l => n ≤ 3 ∧ ∃ (k : List Int) (cs : List Int), l = [.o (.q pk k), .d (.int wd), .d (.int 3), .o (.l (cs.map D.int)), .no, .no] ∧ DkOk (n0 + 1 + 2 * j) k ∧ cs.length = j ∧ ∀ c ∈ cs, 0 ≤ c ∧ c < wd) Z.bl.range rfl (pk_deck (i := 0) (F__law_draw Z) (hr.mono (by decide)) rfl (pds_cons (pd_add (pd_var 2) pd_int) pds_nil) ⟨_, rfl, (by omega)⟩ (hk) ((by omega)) (fun d k h1 h2 => dr_of h1 h2)) (fun d k' h => ?_) (fun n j l hj hI => ?_) (fun n l hI => ?_)
    · obtain ⟨x, rfl, hx, hk'⟩ := h
      exact ⟨x.toNat, by rw [Int.toNat_of_nonneg hx.1], by omega, by omega, k', [], rfl, hk', rfl, by simp⟩
    · obtain ⟨hn3, k, cs, rfl, hk, hl, hc⟩ := hI
      have hj2 : n0 + 1 + 2 * j + 1 ≤ 400 := by omega
      refine ⟨_, _, (pgd_name 4 nd), ?_⟩
      refine sd_setK (i := 0) 5 (R := drR (n0 + 1 + 2 * j + 1) wd) rfl (pk_deck (i := 0) (F__law_draw Z) (hr.mono (by decide)) rfl (pds_cons ((pd_var 1)) pds_nil) ⟨_, rfl, (by omega)⟩ (hk) (hj2) (fun d k h1 h2 => dr_of h1 h2)) (fun d k1 h1 => ?_) nd
      obtain ⟨x, rfl, hx, hk1⟩ := h1
      have fin : ∀ (y : Int) (k2 : List Int), (0 ≤ y ∧ y < wd) → DkOk (n0 + 1 + 2 * (j + 1)) k2 → ∃ m', Weak [.o (.q pk k2), .d (.int wd), .d (.int 3), .o (.l (cs.map D.int ++ [.int y])), .d (.int j), .d (.int y)] m' ∧ n ≤ 3 ∧ ∃ (k : List Int) (cs : List Int), m' = [.o (.q pk k), .d (.int wd), .d (.int 3), .o (.l (cs.map D.int)), .no, .no] ∧ DkOk (n0 + 1 + 2 * (j + 1)) k ∧ cs.length = j + 1 ∧ ∀ c ∈ cs, 0 ≤ c ∧ c < wd := fun y k2 hy hk2 =>
        ⟨_, by rw [show cs.map D.int ++ [.int y] = (cs ++ [y]).map D.int by rw [List.map_append]; rfl]; exact (by repeat (first | exact Weak.nil | (refine Weak.cons (by first | exact WkS.refl | exact WkS.drop | exact WkS.fz | exact WkS.of_eq (by simp )) ?_))), hn3, k2, cs ++ [y], rfl, hk2, by rw [List.length_append, hl]; rfl, fun c hc' => by
          rcases List.mem_append.mp hc' with h | h
          · exact hc c h
          · rw [List.mem_singleton.mp h]; exact hy⟩
      refine sd_ifK (i := 0) (Rb := fun b k' => (b = true → cs ≠ []) ∧ DkOk (n0 + 1 + 2 * (j + 1)) k') rfl (ptk_w (pwk_and (i := 0) (t := !cs.isEmpty) rfl (pt_peek 3 rfl (pt_c (pcd_neNil hul (pd_var 3) (fun _ _ => rfl)))) (fun z => pwk_and1 (ptk_eqI (i := 0) (RI := drR (n0 + 1 + 2 * j + 1 + 1) 3) rfl (pk_deck (i := 0) (F__law_draw Z) (hr.mono (by decide)) rfl (pds_cons (pd_int) pds_nil) ⟨_, rfl, (by omega)⟩ (hk1) ((by omega)) (fun d k h1 h2 => dr_of h1 h2)) (fun _ _ _ => pd_int) fun d k' h => ?_)) fun z => ⟨(fun z => by cases z), hk1.mono (by omega)⟩)) (fun k' h => ?_) (fun k' h => ?_)
      · obtain ⟨x, rfl, hx, hk'⟩ := h
        exact ⟨x, rfl, fun _ e => by rw [e] at z; simp at z, hk'.mono (by omega)⟩
      · have hne := h.1 rfl
        obtain ⟨l, y, rfl⟩ : ∃ l y, cs = l ++ [y] := ⟨_, _, (List.dropLast_concat_getLast hne).symm⟩
        refine sd_set 5 (pd_ixo 3 (d := .int y) rfl (pd_neg pd_int) (by rw [List.map_append]; exact atI_last _ _)) ?_ nd
        refine sd_nil (sd_app 3 rfl (pd_var 5) (by rw [List.length_map]; omega) (sd_nil ?_))
        exact fin y k' (hc y (by simp)) h.2
      · refine sd_nil (sd_app 3 rfl (pd_var 5) (by rw [List.length_map]; omega) (sd_nil ?_))
        exact fin x k' hx h.2
    · obtain ⟨hn3, k, cs, rfl, hk, hl, hc⟩ := hI
      refine sd_weak (Weak.fzAt 3 rfl) ?_
      exact sd_ret (pd_var 3) ⟨_, rfl, ⟨wd, cs, rfl, rfl, by omega, hc⟩, hk.mono (by omega)⟩
end
end Lw
set_option Elab.async false
set_option linter.all false
set_option maxRecDepth 100000
set_option maxHeartbeats 4000000
/-! # rows that are drawn -/
namespace Lw
open PySem PySem.Spec PyProof.Rows L2
structure PDx (TB : Tbs) (X : Cx) (e : Expr) (env : List Sl) (d : D) : Prop where
  run : PD TB X e env d
theorem pdx_pow {TB : Tbs} {X : Cx} {env : List Sl} {m j : Int} {a b : Nat} {p q pos : Pos} (h : CPow m j) : PDx TB X (.BinOp (.Constant (.int m) a p) .Pow (.Constant (.int j) b q) pos) env (.int (m ^ j.toNat)) := ⟨pd_pow pd_int pd_int h⟩
theorem pdx_powAdd {TB : Tbs} {X : Cx} {env : List Sl} {m j l : Int} {a b c : Nat} {p q r pos pos2 : Pos} (h : CPow m j) : PDx TB X (.BinOp (.BinOp (.Constant (.int m) a p) .Pow (.Constant (.int j) b q) pos) .Add (.Constant (.int l) c r) pos2) env (.int (m ^ j.toNat + l)) := ⟨pd_add (pd_pow pd_int pd_int h) pd_int⟩
structure SDx (TB : Tbs) (X : Cx) (st : List Stmt) (env : List Sl) (R : Out → Prop) : Prop where
  run : SD TB X st env R
structure PDsx (TB : Tbs) (X : Cx) (es : List Expr) (env : List Sl) (ds : List D) : Prop where
  run : PDs TB X es env ds
theorem pdsx_nil {TB : Tbs} {X : Cx} {env : List Sl} : PDsx TB X [] env [] := ⟨pds_nil⟩
theorem pdsx_int {TB : Tbs} {X : Cx} {env : List Sl} {es : List Expr} {ds : List D} {i : Int} {a : Nat} {p : Pos} (h : PDsx TB X es env ds) : PDsx TB X (.Constant (.int i) a p :: es) env (.int i :: ds) := ⟨pds_cons pd_int h.run⟩
theorem pdsx_cons {TB : Tbs} {X : Cx} {env : List Sl} {e : Expr} {es : List Expr} {x : D} {ds : List D} (ha : PDx TB X e env x) (h : PDsx TB X es env ds) (hst : starEach (e :: es) X.env = (false, eval e X.env) :: starEach es X.env := by rfl) : PDsx TB X (e :: es) env (x :: ds) := ⟨pds_cons ha.run h.run hst⟩
theorem pdx_list {TB : Tbs} {X : Cx} {env : List Sl} {es : List Expr} {ds : List D} {p : Pos} (h : PDsx TB X es env ds) (hl : ds.length ≤ 100000) : PDx TB X (.List es p) env (.lst ds) := ⟨pd_lst h.run hl⟩
theorem p14 : 1 ≤ ((10 : Int) ^ (14 : Int).toNat) ∧ ((10 : Int) ^ (14 : Int).toNat) ≤ 100000000000000 := by decide +kernel
theorem p37 : 0 ≤ ((10 : Int) ^ (14 : Int).toNat + 37) ∧ ((10 : Int) ^ (14 : Int).toNat + 37) ≤ 100000000000037 := by decide +kernel
section
variable {TB : Tbs} {P : Program} {w : World} {K : PySem.W.Frag} {mg : Str → Option Value} {base : Heap} {Za : Ads}
theorem F__law_rows (Z : Fx TB w K mg base Za) : FnK TB P w K mg base "_law_rows" ["_law_deck", "_law_width", "_law_most"] 2 23 (fun ds => ∃ (wd : Nat), ds = [.int wd, .int 5] ∧ (1 ≤ wd ∧ wd ≤ 2)) (fun ds r => ∃ (wd : Nat) (rows : List (List Int)), ds = [.int wd, .int 5] ∧ r = eRs rows ∧ (rows.length ≤ 5 ∧ ∀ r ∈ rows, r.length = wd)) :=
  FnK.mk' (N := ["_law_deck", "_law_width", "_law_most", "_law_span", "_law_scale", "_law_found", "_law_turn", "_law_cells", "_law_column"]) Z._law_rows ⟨rfl, rfl, rfl, by decide +kernel, rfl, by decide +kernel, by decide +kernel⟩ (by
    rintro ds ⟨wd, rfl, h⟩
    rfl) fun f cdv A outer s0 H0 E hr pk ds k0 n0 hpre hk hn => by
    obtain ⟨wd, rfl, h⟩ := hpre
    have nd : (["_law_deck", "_law_width", "_law_most", "_law_span", "_law_scale", "_law_found", "_law_turn", "_law_cells", "_law_column"] : List Str).Nodup := by decide +kernel
    obtain ⟨hw1, hw2⟩ := h
    have e64 : (2 : Int) ^ 64 = 18446744073709551616 := by decide
    have hul := hr.units
    have four : ∀ {x : Int}, 0 ≤ x ∧ x < 4 → x = 0 ∨ x = 1 ∨ x = 2 ∨ x = 3 := fun h => by omega
    have key : ∀ (a1 a2 : Expr) (V1 V2 : Int) (rest : List Stmt) (k0' k1' : Nat) (p1 p2 p3 q1 q2 q3 q4 q5 q6 q7 q8 q9 r1 r2 r3 : Pos) (j4 j8 : Nat), (1 ≤ V1 ∧ V1 ≤ 100000000000000) → (0 ≤ V2 ∧ V2 ≤ 100000000000037) →
        (∀ env, PDx TB (BX P w K mg base ["_law_deck", "_law_width", "_law_most", "_law_span", "_law_scale", "_law_found", "_law_turn", "_law_cells", "_law_column"] "_law_rows" (defScope (topS 141)) f cdv A outer s0 H0 E) a1 env (.lst [.int 2, .int 3, .int 5, .int V1])) → (∀ env, PDx TB (BX P w K mg base ["_law_deck", "_law_width", "_law_most", "_law_span", "_law_scale", "_law_found", "_law_turn", "_law_cells", "_law_column"] "_law_rows" (defScope (topS 141)) f cdv A outer s0 H0 E) a2 env (.lst [.int 1, .int 1, .int 1, .int V2])) →
        (∀ (span scale : Int) (k2 : List Int), (1 ≤ span ∧ span ≤ 100000000000000) → (0 ≤ scale ∧ scale ≤ 100000000000037) → DkOk (n0 + 2) k2 → SDx TB (BX P w K mg base ["_law_deck", "_law_width", "_law_most", "_law_span", "_law_scale", "_law_found", "_law_turn", "_law_cells", "_law_column"] "_law_rows" (defScope (topS 141)) f cdv A outer s0 H0 E) rest [.o (.q pk k2), .d (.int wd), .d (.int 5), .d (.int span), .d (.int scale), .no, .no, .no, .no] (RetK pk fun d k' => (∃ (wd_1 : Nat) (rows : List (List Int)), [D.int wd, .int 5] = [.int wd_1, .int 5] ∧ d = eRs rows ∧ (rows.length ≤ 5 ∧ ∀ r ∈ rows, r.length = wd_1)) ∧ DkOk (n0 + 23) k')) →
        SDx TB (BX P w K mg base ["_law_deck", "_law_width", "_law_most", "_law_span", "_law_scale", "_law_found", "_law_turn", "_law_cells", "_law_column"] "_law_rows" (defScope (topS 141)) f cdv A outer s0 H0 E) (.Assign [.Tuple [.Name "_law_span" p1, .Name "_law_scale" p2] k0' p3] (.Tuple [.Subscript a1 (.Call (.Name "_law_draw" q1) [.Name "_law_deck" q2, .Constant (.int 4) j4 q3] [] q4) q5, .Subscript a2 (.Call (.Name "_law_draw" q6) [.Name "_law_deck" q7, .Constant (.int 4) j8 q8] [] q9) r1] k1' r2) r3 :: rest) (Sl.o (.q pk k0) :: ([D.int wd, .int 5].map Sl.d ++ List.replicate 6 Sl.no)) (RetK pk fun d k' => (∃ (wd_1 : Nat) (rows : List (List Int)), [D.int wd, .int 5] = [.int wd_1, .int 5] ∧ d = eRs rows ∧ (rows.length ≤ 5 ∧ ∀ r ∈ rows, r.length = wd_1)) ∧ DkOk (n0 + 23) k') := by
      intro a1 a2 V1 V2 rest k0' k1' p1 p2 p3 q1 q2 q3 q4 q5 q6 q7 q8 q9 r1 r2 r3 j4 j8 hV1 hV2 he1 he2 q
      constructor
      refine sd_unpackK (i := 0) (R := fun d k' => ∃ span scale : Int, d = .tup [.int span, .int scale] ∧ (1 ≤ span ∧ span ≤ 100000000000000) ∧ (0 ≤ scale ∧ scale ≤ 100000000000037) ∧ DkOk (n0 + 2) k') rfl (pk_tup (Rs := fun ds k' => ∃ span scale : Int, ds = [.int span, .int scale] ∧ (1 ≤ span ∧ span ≤ 100000000000000) ∧ (0 ≤ scale ∧ scale ≤ 100000000000037) ∧ DkOk (n0 + 2) k') (pks_cons (i := 0) (R := fun d k' => (∃ x : Int, d = .int x ∧ 1 ≤ x ∧ x ≤ 100000000000000) ∧ DkOk (n0 + 1) k') rfl (pk_ix (i := 0) (R := drR (n0 + 1) 4) (ds := [.int 2, .int 3, .int 5, .int V1]) rfl (he1 _).run (pk_deck (i := 0) (F__law_draw Z) (hr.mono (by decide)) rfl (pds_cons (pd_int) pds_nil) ⟨_, rfl, (by omega)⟩ (hk) ((by omega)) (fun d k h1 h2 => dr_of h1 h2)) (.inl rfl) (fun d k' h => ?_)) fun d1 k1 hd1 => pks_cons (i := 0) (R := fun d k' => (∃ x : Int, d = .int x ∧ 0 ≤ x ∧ x ≤ 100000000000037) ∧ DkOk (n0 + 2) k') rfl (pk_ix (i := 0) (R := drR (n0 + 1 + 1) 4) (ds := [.int 1, .int 1, .int 1, .int V2]) rfl (he2 _).run (pk_deck (i := 0) (F__law_draw Z) (hr.mono (by decide)) rfl (pds_cons (pd_int) pds_nil) ⟨_, rfl, (by omega)⟩ (hd1.2) ((by omega)) (fun d k h1 h2 => dr_of h1 h2)) (.inl rfl) (fun d k' h => ?_)) fun d2 k2 hd2 => pks_nil (i := 0) rfl ?_) fun ds k' h => ?_) fun d k' h => ?_
      · obtain ⟨x, rfl, hx, hk'⟩ := h
        rcases four hx with rfl | rfl | rfl | rfl
        · exact ⟨0, .int 2, rfl, rfl, ⟨2, rfl, by omega, by omega⟩, hk'⟩
        · exact ⟨1, .int 3, rfl, rfl, ⟨3, rfl, by omega, by omega⟩, hk'⟩
        · exact ⟨2, .int 5, rfl, rfl, ⟨5, rfl, by omega, by omega⟩, hk'⟩
        · exact ⟨3, .int V1, rfl, rfl, ⟨V1, rfl, by omega, by omega⟩, hk'⟩
      · obtain ⟨x, rfl, hx, hk'⟩ := h
        rcases four hx with rfl | rfl | rfl | rfl
        · exact ⟨0, .int 1, rfl, rfl, ⟨1, rfl, by omega, by omega⟩, hk'⟩
        · exact ⟨1, .int 1, rfl, rfl, ⟨1, rfl, by omega, by omega⟩, hk'⟩
        · exact ⟨2, .int 1, rfl, rfl, ⟨1, rfl, by omega, by omega⟩, hk'⟩
        · exact ⟨3, .int V2, rfl, rfl, ⟨V2, rfl, by omega, by omega⟩, hk'⟩
      · obtain ⟨⟨x, rfl, h1⟩, _⟩ := hd1
        obtain ⟨⟨y, rfl, h2⟩, h3⟩ := hd2
        exact ⟨x, y, rfl, h1, h2, h3⟩
      · obtain ⟨x, y, rfl, h1⟩ := h
        exact ⟨by show 2 ≤ 1000; decide, x, y, rfl, h1⟩
      obtain ⟨span, scale, rfl, ⟨hs1, hs2⟩, ⟨hc1, hc2⟩, hk2⟩ := h
      exact ⟨_, _, (pgd_tup (pgsd_cons (pgd_name 3 nd) (pgsd_cons (pgd_name 4 nd) pgsd_nil))), (q span scale _ ⟨hs1, hs2⟩ ⟨hc1, hc2⟩ hk2).run⟩
    suffices hx : SDx TB (BX P w K mg base ["_law_deck", "_law_width", "_law_most", "_law_span", "_law_scale", "_law_found", "_law_turn", "_law_cells", "_law_column"] "_law_rows" (defScope (topS 141)) f cdv A outer s0 H0 E) (defBody (topS 141)) (Sl.o (.q pk k0) :: ([D.int wd, .int 5].map Sl.d ++ List.replicate 6 Sl.no)) (RetK pk fun d k' => (∃ (wd_1 : Nat) (rows : List (List Int)), [D.int wd, .int 5] = [.int wd_1, .int 5] ∧ d = eRs rows ∧ (rows.length ≤ 5 ∧ ∀ r ∈ rows, r.length = wd_1)) ∧ DkOk (n0 + 23) k') by
      cases hx with
      | mk run => assumption
    refine key _ _ _ _ _ _ _ _ _ _ _ _ _ _ _ _ _ _ _ _ _ _ _ _ p14 p37 (fun _ => pdx_list (pdsx_int (pdsx_int (pdsx_int (pdsx_cons (pdx_pow ⟨by decide, by decide, by decide⟩) pdsx_nil)))) (by decide)) (fun _ => pdx_list (pdsx_int (pdsx_int (pdsx_int (pdsx_cons (pdx_powAdd ⟨by decide, by decide, by decide⟩) pdsx_nil)))) (by decide)) ?_
    intro span scale k2 hs hc hk2
    constructor
    obtain ⟨hs1, hs2⟩ := hs
    obtain ⟨hc1, hc2⟩ := hc
    refine sd_own 5 ?_ nd
    refine sd_forK (i := 0) (R := drR (n0 + 2 + 1) (5 + 1)) (fun n j l => n ≤ 5 ∧ ∃ (k : List Int) (rows : List (List Int)), l = [.o (.q pk k), .d (.int wd), .d (.int 5), .d (.int span), .d (.int scale), .o (.l (rows.map eIs)), .no, .no, .no] ∧ DkOk (n0 + 3 + 4 * j) k ∧ rows.length = j ∧ ∀ r ∈ rows, r.length = wd) Z.bl.range rfl (pk_deck (i := 0) (F__law_draw Z) (hr.mono (by decide)) rfl (pds_cons (pd_add (pd_var 2) pd_int) pds_nil) ⟨_, rfl, (by omega)⟩ (hk2) ((by omega)) (fun d k h1 h2 => dr_of h1 h2)) (fun d k' h => ?_) (fun n j l hj hI => ?_) (fun n l hI => ?_)
    · obtain ⟨x, rfl, hx, hk'⟩ := h
      exact ⟨x.toNat, by rw [Int.toNat_of_nonneg hx.1], by omega, by omega, k', [], rfl, hk', rfl, by simp⟩
    · obtain ⟨hn5, k, rows, rfl, hk, hl, hr'⟩ := hI
      refine ⟨_, _, (pgd_name 6 nd), ?_⟩
      refine sd_setLcK (i := 0) 7 (own := [("_law_column", 8)]) rfl (pid_range Z.bl.range (pd_var 1) (by omega)) (by rw [rgD_length]; omega) (fun t acc k => (∃ cs : List Int, acc = cs.map D.int ∧ cs.length = t) ∧ t ≤ wd ∧ DkOk (n0 + 3 + 4 * j + t) k) ⟨⟨[], rfl, rfl⟩, Nat.zero_le _, hk⟩ (fun t acc k h => by obtain ⟨⟨cs, rfl, h1⟩, _⟩ := h; rw [List.length_map]; omega) (fun t d acc k' hd hI' => ?_) (fun acc k' hI' => ?_) nd (blkOk_by (show blkC ["_law_deck", "_law_width", "_law_most", "_law_span", "_law_scale", "_law_found", "_law_turn", "_law_cells", "_law_column"] (defScope (topS 141)) _ [("_law_column", 8)] = true from by decide +kernel))
      · obtain ⟨⟨cs, rfl, hcl⟩, htw, hkt⟩ := hI'
        have htl : t < wd := by
          have := (List.getElem?_eq_some_iff.mp hd).1
          rw [rgD_length] at this
          exact this
        exact ⟨_, _, by decide, rfl, fun _ _ _ _ _ => (pgd_name 8 nd), .inl ⟨rfl, fun _ _ _ _ _ => pk_opL (i := 0) op_mul rfl (pk_opL (i := 0) (R := drR (n0 + 3 + 4 * j + t + 1) span) (op_c0 op_sub) rfl (pk_deck (i := 0) (F__law_draw Z) (hr.mono (by decide)) rfl (pds_cons ((pd_var 3)) pds_nil) ⟨_, rfl, (by omega)⟩ (hkt) ((by omega)) (fun d k h1 h2 => dr_of h1 h2)) (fun _ _ _ => pd_fdiv (pd_var 3) pd_int ⟨by decide, by decide⟩) (R' := fun d k' => (∃ x : Int, d = .int x) ∧ DkOk (n0 + 3 + 4 * j + t + 1) k') fun d k1 h => by obtain ⟨x, rfl, hx, hk'⟩ := h; exact ⟨x, rfl, True.intro, ⟨_, rfl⟩, hk'⟩) (fun _ _ _ => (pd_var 4)) (fun d k1 h => by obtain ⟨⟨x, rfl⟩, hk'⟩ := h; exact ⟨x, rfl, .inr ⟨by omega, by omega⟩, ⟨cs ++ [x * scale], by rw [List.map_append]; rfl, by rw [List.length_append, hcl]; rfl⟩, htl, hk'⟩)⟩⟩
      · obtain ⟨⟨cs, rfl, hcl⟩, _, hkw⟩ := hI'
        rw [rgD_length] at hcl hkw
        have fin : ∀ (y : List Int) (k2 : List Int), y.length = wd → DkOk (n0 + 3 + 4 * (j + 1)) k2 → ∃ m', Weak [.o (.q pk k2), .d (.int wd), .d (.int 5), .d (.int span), .d (.int scale), .o (.l (rows.map eIs ++ [eIs y])), .d (.int j), .d (eIs y), .no] m' ∧ n ≤ 5 ∧ ∃ (k : List Int) (rows : List (List Int)), m' = [.o (.q pk k), .d (.int wd), .d (.int 5), .d (.int span), .d (.int scale), .o (.l (rows.map eIs)), .no, .no, .no] ∧ DkOk (n0 + 3 + 4 * (j + 1)) k ∧ rows.length = j + 1 ∧ ∀ r ∈ rows, r.length = wd := fun y k2 hy hk2 =>
          ⟨_, by rw [show rows.map eIs ++ [eIs y] = (rows ++ [y]).map eIs by rw [List.map_append]; rfl]; exact (by repeat (first | exact Weak.nil | (refine Weak.cons (by first | exact WkS.refl | exact WkS.drop | exact WkS.fz | exact WkS.of_eq (by simp )) ?_))), hn5, k2, rows ++ [y], rfl, hk2, by rw [List.length_append, hl]; rfl, fun c hc' => by
            rcases List.mem_append.mp hc' with h | h
            · exact hr' c h
            · rw [List.mem_singleton.mp h]; exact hy⟩
        have hkw2 : DkOk (n0 + 3 + 4 * j + 2) k' := hkw.mono (by omega)
        refine sd_ifK (i := 0) (Rb := fun b k' => (b = true → rows ≠ []) ∧ DkOk (n0 + 3 + 4 * j + 3) k') rfl (ptk_w (pwk_and (i := 0) (t := !rows.isEmpty) rfl (pt_peek 5 rfl (pt_c (pcd_neNil hul (pd_var 5) (fun b _ => (pn_up pn_eIs (by decide)).pl b)))) (fun z => pwk_and1 (ptk_eqI (i := 0) (RI := drR (n0 + 3 + 4 * j + 2 + 1) 6) rfl (pk_deck (i := 0) (F__law_draw Z) (hr.mono (by decide)) rfl (pds_cons (pd_int) pds_nil) ⟨_, rfl, (by omega)⟩ (hkw2) ((by omega)) (fun d k h1 h2 => dr_of h1 h2)) (fun _ _ _ => pd_int) fun d k' h => ?_)) fun z => ⟨(fun z => by cases z), hkw2.mono (by omega)⟩)) (fun k' h => ?_) (fun k' h => ?_)
        · obtain ⟨x, rfl, hx, hk'⟩ := h
          exact ⟨x, rfl, fun _ e => by rw [e] at z; simp at z, hk'⟩
        · have hne := h.1 rfl
          have hpos : 0 < rows.length := List.length_pos_iff.mpr hne
          have hk3 := h.2
          refine sd_setK (i := 0) 7 (R := fun d k' => (∃ y : List Int, d = eIs y ∧ y ∈ rows) ∧ DkOk (n0 + 3 + 4 * j + 4) k') rfl (pk_list (R := fun d k' => (∃ y : List Int, d = eIs y ∧ y ∈ rows) ∧ DkOk (n0 + 3 + 4 * j + 4) k') Z.bl.list (pk_ixo (i := 0) 5 (R := drR (n0 + 3 + 4 * j + 3 + 1) rows.length) rfl rfl (pk_deck (i := 0) (F__law_draw Z) (hr.mono (by decide)) rfl (pds_cons (pd_peek 5 rfl ((pd_len Z.bl.len (pd_var 5) (.inl rfl)).cast (by rw [List.length_map])) rfl) pds_nil) ⟨_, rfl, (by omega)⟩ (hk3) ((by omega)) (fun d k h1 h2 => dr_of h1 h2)) fun d k' h => ?_) fun d k' h => by obtain ⟨⟨y, rfl, hy⟩, hk'⟩ := h; exact ⟨_, rfl, ⟨y, rfl, hy⟩, hk'⟩) (fun d k' h => ?_) nd
          · obtain ⟨x, rfl, hx, hk'⟩ := h
            have hlt : x.toNat < rows.length := by omega
            exact ⟨x, eIs rows[x.toNat], rfl, atI_int hx.1 (by rw [List.getElem?_map, List.getElem?_eq_getElem hlt]; rfl), ⟨_, rfl, List.getElem_mem hlt⟩, hk'⟩
          · obtain ⟨⟨y, rfl, hy⟩, hk'⟩ := h
            refine sd_nil (sd_app 5 rfl (pd_var 7) (by rw [List.length_map]; omega) (sd_nil ?_))
            exact fin y k' (hr' y hy) hk'
        · refine sd_nil (sd_app 5 rfl (pd_var 7) (by rw [List.length_map]; omega) (sd_nil ?_))
          exact fin cs k' hcl (h.2.mono (by omega))
    · obtain ⟨hn5, k, rows, rfl, hk, hl, hr'⟩ := hI
      refine sd_weak (Weak.fzAt 5 rfl) ?_
      exact sd_ret (pd_var 5) ⟨_, rfl, ⟨wd, rows, rfl, rfl, by omega, hr'⟩, hk.mono (by omega)⟩
end
end Lw
set_option linter.all false
set_option maxRecDepth 100000
set_option Elab.async false
set_option maxHeartbeats 4000000
namespace Lw
open PySem PySem.Spec PyProof.Rows L2
/-! ### sortings, finitely -/
def WayOk (w : Nat) (a b : List Key) (u : List Int) : Prop := afterClicks a u = b ∧ (∀ c ∈ u, 0 ≤ c ∧ c < (w : Int)) ∧ u.length ≤ 8
instance (w : Nat) (a b : List Key) (u : List Int) : Decidable (WayOk w a b u) := inferInstanceAs (Decidable (_ ∧ _))
def TriOk (a c : List Key) (n : Nat) : Prop := ∃ x ∈ wayBetween a c, x.length ≤ n
instance (a c : List Key) (n : Nat) : Decidable (TriOk a c n) := decidable_of_iff ((match wayBetween a c with | some x => decide (x.length ≤ n) | none => false) = true) (by
  unfold TriOk
  cases wayBetween a c with
  | none => simp
  | some x => simp)
theorem way_self12 : ∀ w ∈ [1, 2], ∀ a ∈ sorts w, wayBetween a a = some [] := by decide +kernel
theorem click_in12 : ∀ w ∈ [1, 2], ∀ a ∈ sorts w, ∀ c ∈ rg w, afterClick a c ∈ sorts w := by decide +kernel
theorem way_ok12 : ∀ w ∈ [1, 2], ∀ a ∈ sorts w, ∀ b ∈ sorts w, ∀ u ∈ (wayBetween a b).toList, WayOk w a b u := by decide +kernel
theorem tri12 : ∀ w ∈ [1, 2], ∀ a ∈ sorts w, ∀ b ∈ sorts w, ∀ u ∈ (wayBetween a b).toList, ∀ c ∈ sorts w, ∀ v ∈ (wayBetween b c).toList, TriOk a c (u.length + v.length) := by decide +kernel
theorem len12 : ∀ w ∈ [1, 2], ∀ a ∈ sorts w, a.length ≤ 2 := by decide +kernel
theorem nil12 : ∀ w ∈ [1, 2], [] ∈ sorts w := by decide +kernel
theorem nodup12 : ∀ w ∈ [1, 2], (sorts w).length ≤ 13 := by decide +kernel
theorem in12 {w : Nat} (h1 : 1 ≤ w) (h2 : w ≤ 2) : w ∈ [1, 2] := by
  rcases (show w = 1 ∨ w = 2 by omega) with rfl | rfl <;> simp
section
variable {w : Nat} (h1 : 1 ≤ w) (h2 : w ≤ 2)
include h1 h2
theorem way_self {a : List Key} (ha : a ∈ sorts w) : wayBetween a a = some [] := way_self12 w (in12 h1 h2) a ha
theorem click_in {a : List Key} (ha : a ∈ sorts w) {c : Int} (hc : 0 ≤ c ∧ c < w) : afterClick a c ∈ sorts w := click_in12 w (in12 h1 h2) a ha c (mem_rg.mpr hc)
theorem clicks_in {cs : List Int} : ∀ {a : List Key}, a ∈ sorts w → (∀ c ∈ cs, 0 ≤ c ∧ c < (w : Int)) → afterClicks a cs ∈ sorts w := by
  induction cs with
  | nil => exact fun ha _ => ha
  | cons c cs ih => exact fun ha h => ih (click_in h1 h2 ha (h c List.mem_cons_self)) fun d hd => h d (List.mem_cons_of_mem _ hd)
theorem way_ok {a b : List Key} (ha : a ∈ sorts w) (hb : b ∈ sorts w) {u : List Int} (h : wayBetween a b = some u) : WayOk w a b u := way_ok12 w (in12 h1 h2) a ha b hb u (by rw [h]; simp)
theorem tri {a b c : List Key} (ha : a ∈ sorts w) (hb : b ∈ sorts w) (hc : c ∈ sorts w) {u v : List Int} (h : wayBetween a b = some u) (k : wayBetween b c = some v) : ∃ x, wayBetween a c = some x ∧ x.length ≤ u.length + v.length := by
  obtain ⟨x, hx, hl⟩ := tri12 w (in12 h1 h2) a ha b hb u (by rw [h]; simp) c hc v (by rw [k]; simp)
  exact ⟨x, hx, hl⟩
theorem way_nil {a b : List Key} (ha : a ∈ sorts w) (hb : b ∈ sorts w) (h : wayBetween a b = some []) : a = b := (way_ok h1 h2 ha hb h).1
theorem nil_in : [] ∈ sorts w := nil12 w (in12 h1 h2)
theorem len_in {a : List Key} (ha : a ∈ sorts w) : a.length ≤ 2 := len12 w (in12 h1 h2) a ha
end
/-- each sorting of one or two columns is among them -/
theorem srt_in {w : Nat} (h1 : 1 ≤ w) (h2 : w ≤ 2) {s : List Key} (h : Srt w s) : s ∈ sorts w := by
  have hk := h.keyed
  have hw := h.inw
  have sg : ∀ k ∈ s, (k.1 = 0 ∨ k.1 = 1) ∧ k.1 < w ∧ (k.2 = 1 ∨ k.2 = -1) := fun k hk' => by
    have a1 := hk.2 k hk'
    have a2 := hw k hk'
    exact ⟨by omega, a2, a1.2⟩
  match s, hk.1, sg with
  | [], _, _ => exact nil_in h1 h2
  | [(c, g)], _, sg =>
    obtain ⟨a, b, d⟩ := sg _ List.mem_cons_self
    rcases (show w = 1 ∨ w = 2 by omega) with rfl | rfl <;> rcases a with a | a <;> rcases d with d | d <;> (simp only at a b d; subst a; subst d; first | omega | decide)
  | [(c, g), (c2, g2)], nd, sg =>
    obtain ⟨a, b, d⟩ := sg _ List.mem_cons_self
    obtain ⟨a2, b2, d2⟩ := sg _ (List.mem_cons_of_mem _ List.mem_cons_self)
    have ne : c ≠ c2 := by simpa using nd
    simp only at a b d a2 b2 d2
    have hw2 : w = 2 := by omega
    subst hw2
    rcases a with a | a <;> rcases d with d | d <;> rcases a2 with a2 | a2 <;> rcases d2 with d2 | d2 <;> (subst a; subst d; subst a2; subst d2; first | (exact absurd rfl ne) | decide)
  | (c, g) :: (c2, g2) :: (c3, g3) :: t, nd, sg =>
    obtain ⟨a, b, d⟩ := sg _ List.mem_cons_self
    obtain ⟨a2, b2, d2⟩ := sg _ (List.mem_cons_of_mem _ List.mem_cons_self)
    obtain ⟨a3, b3, d3⟩ := sg _ (List.mem_cons_of_mem _ (List.mem_cons_of_mem _ List.mem_cons_self))
    simp at nd a a2 a3
    omega
end Lw
set_option linter.all false
set_option maxRecDepth 100000
set_option Elab.async false
set_option maxHeartbeats 4000000
namespace Lw
open PySem PySem.Spec PyProof.Rows L2
/-! ### marks by positions -/
def flagsOf (t m : List Int) : List Bool := t.map fun r => decide (r ∈ m)
def bordersF (F : List Bool) : List Int := (rg (F.length + 1)).filter fun place => !(([false] ++ F ++ [false])[place.toNat]?.getD false == ([false] ++ F ++ [false])[place.toNat + 1]?.getD false)
def coverF (F : List Bool) : List (List Int) := (blocksOf (bordersF F)).flatMap blockCover
def costF (F : List Bool) : Int := ((blocksOf (bordersF F)).map fun b => (b.2 - b.1 + 2) / 2).sum
theorem borders_F (t m : List Int) : bordersIn t m = bordersF (flagsOf t m) := by
  unfold bordersIn bordersF flagsOf
  rw [List.length_map]
theorem cost_F (t m : List Int) : costIn t m = costF (flagsOf t m) := by
  unfold costIn costF
  rw [borders_F]
theorem cover_F (t m : List Int) : coverIn t m = coverF (flagsOf t m) := by
  unfold coverIn coverF
  rw [borders_F]
def cheapF (F : List Bool) : List (Str × Int) := clicksIn (coverF F)
theorem cheap_F (t m : List Int) : cheapestIn t m = cheapF (flagsOf t m) := by
  unfold cheapestIn cheapF
  rw [cover_F]
abbrev StF := List Bool × Option Nat
def stepF (q : StF) (c : Str × Int) : StF :=
  if c.1 = "range" then (q.1.mapIdx fun i b => if min (q.2.getD 0) c.2.toNat ≤ i ∧ i ≤ max (q.2.getD 0) c.2.toNat then q.1[q.2.getD 0]?.getD false else b, q.2)
  else (q.1.mapIdx fun i b => if i = c.2.toNat then !b else b, some c.2.toNat)
def okF (n : Nat) (a : Option Nat) (c : Str × Int) : Bool := decide (0 ≤ c.2 ∧ c.2 < n) && (decide (c.1 = "click") || (decide (c.1 = "range") && a.isSome))
def runF : StF → List (Str × Int) → Option StF
  | q, [] => some q
  | q, c :: cs => if okF q.1.length q.2 c = true then runF (stepF q c) cs else none
def flagLists : Nat → List (List Bool)
  | 0 => [[]]
  | n + 1 => [] :: (flagLists n).flatMap fun F => [false :: F, true :: F]
theorem flag_mem : ∀ (n : Nat) (F : List Bool), F.length ≤ n → F ∈ flagLists n
  | 0, F, h => by
    rw [List.length_eq_zero_iff.mp (Nat.le_zero.mp h)]
    simp [flagLists]
  | n + 1, [], h => by simp [flagLists]
  | n + 1, b :: F, h => by
    have := flag_mem n F (by simpa using h)
    simp only [flagLists, List.mem_cons, List.mem_flatMap]
    refine .inr ⟨F, this, ?_⟩
    cases b <;> simp
def FlagOk (F : List Bool) : Prop := ((cheapF F).length : Int) = costF F ∧ ((coverF F).filter fun t => decide (t.length = 1)).length % 2 = 0 ∧ (∃ a, runF (List.replicate F.length false, none) (cheapF F) = some (F, a)) ∧ (cheapF F).length ≤ 5 ∧ 0 ≤ costF F
def flagOkB (F : List Bool) : Bool := decide (((cheapF F).length : Int) = costF F) && decide (((coverF F).filter fun t => decide (t.length = 1)).length % 2 = 0) && decide ((runF (List.replicate F.length false, none) (cheapF F)).map (·.1) = some F) && decide ((cheapF F).length ≤ 5) && decide (0 ≤ costF F)
theorem flagB5 : ∀ F ∈ flagLists 5, flagOkB F = true := by decide +kernel
theorem flag5 {F : List Bool} (h : F.length ≤ 5) : FlagOk F := by
  have := flagB5 F (flag_mem 5 F h)
  unfold flagOkB at this
  simp only [Bool.and_eq_true, decide_eq_true_eq] at this
  obtain ⟨⟨⟨⟨a, b⟩, c⟩, d⟩, e⟩ := this
  refine ⟨a, b, ?_, d, e⟩
  cases q : runF (List.replicate F.length false, none) (cheapF F) with
  | none => rw [q] at c; cases c
  | some x =>
    obtain ⟨f, y⟩ := x
    rw [q] at c
    cases c
    exact ⟨y, rfl⟩
theorem costF_none : ∀ n ≤ 5, costF (List.replicate n false) = 0 ∧ cheapF (List.replicate n false) = [] := by decide +kernel
/-! ### rows and positions -/
/-- the marks m with the anchor an stand for the flags q -/
structure FlagAt (t : List Int) (m : List Int) (an : Option Int) (q : StF) : Prop where
  up : m.Pairwise (· < ·)
  sub : ∀ x ∈ m, x ∈ t
  fl : q.1 = flagsOf t m
  an : match q.2 with
    | none => an = none
    | some a => a < t.length ∧ an = some (t[a]?.getD 0)
theorem strict_of {l : List Int} (h : l.Pairwise (· ≤ ·)) (nd : l.Nodup) : l.Pairwise (· < ·) := by
  have := h.and nd
  exact this.imp fun ⟨a, b⟩ => by
    have b : _ ≠ _ := b
    omega
theorem nodup_of {l : List Int} (h : l.Pairwise (· < ·)) : l.Nodup := h.imp fun a e => by omega
theorem sortI_strict {l : List Int} (nd : l.Nodup) : (sortI l).Pairwise (· < ·) := strict_of (sortI_sorted l) ((sortI_perm l).nodup_iff.mpr nd)
theorem mem_sortI {l : List Int} {x : Int} : x ∈ sortI l ↔ x ∈ l := (sortI_perm l).mem_iff
theorem mem_addT {l : List Int} {x i : Int} : x ∈ addT l i ↔ x ∈ l ∨ x = i := by
  unfold addT
  split
  · rename_i h
    constructor
    · exact .inl
    · rintro (h2 | rfl)
      · exact h2
      · exact h
  · simp
theorem mem_delT {l : List Int} {x i : Int} : x ∈ delT l i ↔ x ∈ l ∧ x ≠ i := by
  unfold delT
  rw [List.mem_filter, decide_eq_true_eq]
theorem nodup_addT {l : List Int} {i : Int} (h : l.Nodup) : (addT l i).Nodup := by
  unfold addT
  split
  · exact h
  · rename_i n
    rw [List.nodup_append]
    refine ⟨h, by simp, fun a ha b hb => ?_⟩
    rw [List.mem_singleton.mp hb]
    exact fun e => n (e ▸ ha)
theorem nodup_delT {l : List Int} {i : Int} (h : l.Nodup) : (delT l i).Nodup := h.filter _
theorem mem_addAll {x : Int} : ∀ (seg m : List Int), x ∈ seg.foldl addT m ↔ x ∈ m ∨ x ∈ seg
  | [], m => by simp
  | y :: seg, m => by
    rw [List.foldl_cons, mem_addAll seg, mem_addT, List.mem_cons]
    constructor
    · rintro ((h | h) | h)
      · exact .inl h
      · exact .inr (.inl h)
      · exact .inr (.inr h)
    · rintro (h | h | h)
      · exact .inl (.inl h)
      · exact .inl (.inr h)
      · exact .inr h
theorem mem_delAll {x : Int} : ∀ (seg m : List Int), x ∈ seg.foldl delT m ↔ x ∈ m ∧ x ∉ seg
  | [], m => by simp
  | y :: seg, m => by
    rw [List.foldl_cons, mem_delAll seg, mem_delT, List.mem_cons]
    constructor
    · rintro ⟨⟨a, b⟩, c⟩
      exact ⟨a, fun h => h.elim b c⟩
    · rintro ⟨a, b⟩
      exact ⟨⟨a, fun h => b (.inl h)⟩, fun h => b (.inr h)⟩
theorem nodup_addAll : ∀ (seg m : List Int), m.Nodup → (seg.foldl addT m).Nodup
  | [], m, h => h
  | y :: seg, m, h => nodup_addAll seg _ (nodup_addT h)
theorem nodup_delAll : ∀ (seg m : List Int), m.Nodup → (seg.foldl delT m).Nodup
  | [], m, h => h
  | y :: seg, m, h => nodup_delAll seg _ (nodup_delT h)
section
variable {t m : List Int} {an : Option Int} {q : StF} {c : Str × Int}
theorem get_inj (nd : t.Nodup) {i j : Nat} {x : Int} (hi : t[i]? = some x) (hj : t[j]? = some x) : i = j := by
  obtain ⟨h1, e1⟩ := List.getElem?_eq_some_iff.mp hi
  obtain ⟨h2, e2⟩ := List.getElem?_eq_some_iff.mp hj
  exact (List.getElem_inj nd).mp (e1.trans e2.symm)
theorem idxOf_get (nd : t.Nodup) {i : Nat} (h : i < t.length) : t.idxOf (t[i]) = i := List.Nodup.idxOf_getElem nd i h
/-- the flags of the marks m' from how each row of the list fares -/
theorem flags_eq {m' : List Int} {F : List Bool} (hl : F.length = t.length) (h : ∀ i (hi : i < t.length), F[i]? = some (decide (t[i] ∈ m'))) : F = flagsOf t m' := by
  apply List.ext_getElem?
  intro i
  unfold flagsOf
  rw [List.getElem?_map]
  by_cases hi : i < t.length
  · rw [h i hi, List.getElem?_eq_getElem hi]
    rfl
  · rw [List.getElem?_eq_none (by omega), List.getElem?_eq_none (by omega)]
    rfl
theorem flags_get (m : List Int) {i : Nat} (hi : i < t.length) : (flagsOf t m)[i]? = some (decide (t[i] ∈ m)) := by
  unfold flagsOf
  rw [List.getElem?_map, List.getElem?_eq_getElem hi]
  rfl
theorem step_flag (nd : t.Nodup) (h : FlagAt t m an q) (ok : okF q.1.length q.2 c = true) : ClickOk t an c ∧ FlagAt t (markStep t m an c).1 (markStep t m an c).2 (stepF q c) := by
  obtain ⟨F, qa⟩ := q
  obtain ⟨up, sub, fl, ha⟩ := h
  simp only at fl ha ok
  subst fl
  have hlen : (flagsOf t m).length = t.length := List.length_map _
  unfold okF at ok
  simp only [Bool.and_eq_true, Bool.or_eq_true, decide_eq_true_eq, hlen] at ok
  obtain ⟨⟨p0, p1⟩, hw⟩ := ok
  have hp : c.2.toNat < t.length := by omega
  have hpt : (c.2.toNat : Int) = c.2 := by omega
  by_cases hr : c.1 = "range"
  · have hsome : qa.isSome = true := by
      rcases hw with hw | hw
      · rw [hw] at hr
        exact absurd hr (by decide)
      · exact hw.2
    obtain ⟨a, rfl⟩ := Option.isSome_iff_exists.mp hsome
    obtain ⟨hat, rfl⟩ := ha
    have hga : t[a]?.getD 0 = t[a] := by rw [List.getElem?_eq_getElem hat]; rfl
    rw [hga]
    refine ⟨⟨⟨p0, p1⟩, .inr ⟨hr, t[a], rfl, List.getElem_mem hat⟩⟩, ?_⟩
    unfold markStep stepF
    rw [if_pos hr, if_pos hr]
    simp only [Option.getD_some]
    -- the rows between
    have hseg : ∀ x, x ∈ segOf t t[a] c.2.toNat ↔ ∃ i, t[i]? = some x ∧ min a c.2.toNat ≤ i ∧ i ≤ max a c.2.toNat := by
      intro x
      unfold segOf
      rw [idxOf_get nd hat, List.mem_iff_getElem?]
      constructor
      · rintro ⟨i, hi⟩
        rw [List.getElem?_take] at hi
        split at hi
        · rw [List.getElem?_drop] at hi
          exact ⟨_, hi, by omega, by omega⟩
        · cases hi
      · rintro ⟨i, hi, h1, h2⟩
        refine ⟨i - min a c.2.toNat, ?_⟩
        rw [List.getElem?_take, if_pos (by omega), List.getElem?_drop]
        rw [show min a c.2.toNat + (i - min a c.2.toNat) = i by omega]
        exact hi
    have hsub : ∀ x ∈ segOf t t[a] c.2.toNat, x ∈ t := fun x hx => by
      obtain ⟨i, hi, _⟩ := (hseg x).mp hx
      exact List.mem_of_getElem? hi
    have hfa : (flagsOf t m)[a]?.getD false = decide (t[a] ∈ m) := by rw [flags_get m hat]; rfl
    have mem : ∀ x, x ∈ sortI (markRange t m t[a] c.2.toNat) ↔ if x ∈ segOf t t[a] c.2.toNat then t[a] ∈ m else x ∈ m := by
      intro x
      rw [mem_sortI]
      unfold markRange
      by_cases hm : t[a] ∈ m
      · have e : (fun f o => if t[a] ∈ m then addT f o else delT f o) = addT := by
          funext f o
          rw [if_pos hm]
        rw [e, mem_addAll]
        split
        · rename_i h
          exact ⟨fun _ => hm, fun _ => .inr h⟩
        · rename_i h
          exact ⟨fun k => k.elim id fun k => absurd k h, .inl⟩
      · have e : (fun f o => if t[a] ∈ m then addT f o else delT f o) = delT := by
          funext f o
          rw [if_neg hm]
        rw [e, mem_delAll]
        split
        · rename_i h
          exact ⟨fun k => absurd h k.2, fun k => absurd k hm⟩
        · rename_i h
          exact ⟨fun k => k.1, fun k => ⟨k, h⟩⟩
    have ndm : (markRange t m t[a] c.2.toNat).Nodup := by
      unfold markRange
      by_cases hm : t[a] ∈ m
      · have e : (fun f o => if t[a] ∈ m then addT f o else delT f o) = addT := by
          funext f o
          rw [if_pos hm]
        rw [e]
        exact nodup_addAll _ _ (nodup_of up)
      · have e : (fun f o => if t[a] ∈ m then addT f o else delT f o) = delT := by
          funext f o
          rw [if_neg hm]
        rw [e]
        exact nodup_delAll _ _ (nodup_of up)
    refine ⟨sortI_strict ndm, fun x hx => ?_, flags_eq (by rw [List.length_mapIdx, hlen]) fun i hi => ?_, ⟨hat, by rw [List.getElem?_eq_getElem hat]; rfl⟩⟩
    · have := (mem x).mp hx
      split at this
      · rename_i h
        exact hsub x h
      · exact sub x this
    · rw [List.getElem?_mapIdx, flags_get m hi, hfa]
      refine congrArg some ?_
      simp only []
      have hin : t[i] ∈ segOf t t[a] c.2.toNat ↔ min a c.2.toNat ≤ i ∧ i ≤ max a c.2.toNat := by
        rw [hseg]
        constructor
        · rintro ⟨j, hj, h1, h2⟩
          rw [get_inj nd (List.getElem?_eq_getElem hi) hj]
          exact ⟨h1, h2⟩
        · exact fun ⟨h1, h2⟩ => ⟨i, List.getElem?_eq_getElem hi, h1, h2⟩
      have e2 : (t[i] ∈ sortI (markRange t m t[a] c.2.toNat)) ↔ if min a c.2.toNat ≤ i ∧ i ≤ max a c.2.toNat then t[a] ∈ m else t[i] ∈ m := by
        rw [mem]
        split <;> rename_i h
        · rw [if_pos (hin.mp h)]
        · rw [if_neg fun z => h (hin.mpr z)]
      by_cases hh : min a c.2.toNat ≤ i ∧ i ≤ max a c.2.toNat
      · rw [if_pos hh] at e2 ⊢
        exact (decide_eq_decide.mpr e2).symm
      · rw [if_neg hh] at e2 ⊢
        exact (decide_eq_decide.mpr e2).symm
  · have hc : c.1 = "click" := by
      rcases hw with hw | hw
      · exact hw
      · exact absurd hw.1 hr
    refine ⟨⟨⟨p0, p1⟩, .inl hc⟩, ?_⟩
    unfold markStep stepF
    rw [if_neg hr, if_neg hr]
    have hgp : t[c.2.toNat]?.getD 0 = t[c.2.toNat] := by rw [List.getElem?_eq_getElem hp]; rfl
    simp only [hgp]
    have mem : ∀ x, x ∈ sortI (markClick m t[c.2.toNat]) ↔ if x = t[c.2.toNat] then t[c.2.toNat] ∉ m else x ∈ m := by
      intro x
      rw [mem_sortI]
      unfold markClick
      by_cases hm : t[c.2.toNat] ∈ m
      · rw [if_pos hm, mem_delT]
        split
        · rename_i h
          exact ⟨fun k => absurd h k.2, fun k => absurd hm k⟩
        · rename_i h
          exact ⟨fun k => k.1, fun k => ⟨k, h⟩⟩
      · rw [if_neg hm, mem_addT]
        split
        · rename_i h
          exact ⟨fun _ => hm, fun _ => .inr h⟩
        · rename_i h
          exact ⟨fun k => k.elim id fun k => absurd k h, .inl⟩
    have ndm : (markClick m t[c.2.toNat]).Nodup := by
      unfold markClick
      split
      · exact nodup_delT (nodup_of up)
      · exact nodup_addT (nodup_of up)
    refine ⟨sortI_strict ndm, fun x hx => ?_, flags_eq (by rw [List.length_mapIdx, hlen]) fun i hi => ?_, ⟨hp, by rw [List.getElem?_eq_getElem hp]; rfl⟩⟩
    · have := (mem x).mp hx
      split at this
      · rename_i h
        rw [h]
        exact List.getElem_mem hp
      · exact sub x this
    · rw [List.getElem?_mapIdx, flags_get m hi]
      refine congrArg some ?_
      simp only []
      have e2 : (t[i] ∈ sortI (markClick m t[c.2.toNat])) ↔ if i = c.2.toNat then ¬ t[i] ∈ m else t[i] ∈ m := by
        rw [mem]
        by_cases h : i = c.2.toNat
        · subst h
          simp
        · rw [if_neg h, if_neg fun z => h (get_inj nd (List.getElem?_eq_getElem hi) (by rw [z]; exact List.getElem?_eq_getElem hp))]
      by_cases hh : i = c.2.toNat
      · rw [if_pos hh] at e2 ⊢
        rw [decide_eq_decide.mpr e2, decide_not]
      · rw [if_neg hh] at e2 ⊢
        exact (decide_eq_decide.mpr e2).symm
/-- marks are told by their flags -/
theorem marks_eq {m m' : List Int} (h1 : m.Pairwise (· < ·)) (h2 : m'.Pairwise (· < ·)) (s1 : ∀ x ∈ m, x ∈ t) (s2 : ∀ x ∈ m', x ∈ t) (e : flagsOf t m = flagsOf t m') : m = m' := by
  have key : ∀ x ∈ t, x ∈ m ↔ x ∈ m' := fun x hx => by
    obtain ⟨i, hi, rfl⟩ := List.mem_iff_getElem.mp hx
    have := flags_get m hi
    rw [e, flags_get m' hi] at this
    have := Option.some.inj this
    exact (decide_eq_decide.mp this).symm
  have p : m.Perm m' := (List.perm_ext_iff_of_nodup (nodup_of h1) (nodup_of h2)).mpr fun x => ⟨fun h => (key x (s1 x h)).mp h, fun h => (key x (s2 x h)).mpr h⟩
  exact p.eq_of_pairwise (le := fun a b : Int => a < b) (fun a b _ _ h h' => by omega) h1 h2
end
end Lw
set_option linter.all false
set_option maxRecDepth 100000
set_option Elab.async false
set_option maxHeartbeats 4000000
namespace Lw
open PySem PySem.Spec PyProof.Rows L2
/-! ### scripts -/
theorem runD_app (rows : List (List Int)) (q : SpS) (a b : List Deed) : runD rows q (a ++ b) = runD rows (runD rows q a) b := List.foldl_append
theorem scriptOk_nil {wd : Nat} {rows : List (List Int)} {q : SpS} : ScriptOk wd rows q [] := fun pre c post e => by
  cases pre <;> cases e
theorem scriptOk_cons {wd : Nat} {rows : List (List Int)} {q : SpS} {c : Deed} {cs : List Deed} (h1 : StOk wd rows q) (h2 : DeedOk wd rows q c) (h : ScriptOk wd rows (stepS rows q c) cs) : ScriptOk wd rows q (c :: cs) := fun pre d post e => by
  cases pre with
  | nil =>
    cases e
    exact ⟨h1, h2⟩
  | cons x pre =>
    cases e
    exact h pre d post rfl
theorem scriptOk_app {wd : Nat} {rows : List (List Int)} {q : SpS} {a b : List Deed} (h1 : ScriptOk wd rows q a) (h2 : ScriptOk wd rows (runD rows q a) b) : ScriptOk wd rows q (a ++ b) := by
  induction a generalizing q with
  | nil => exact h2
  | cons c a ih =>
    obtain ⟨s1, s2⟩ := h1 [] c a rfl
    exact scriptOk_cons s1 s2 (ih (fun pre d post e => h1 (c :: pre) d post (by rw [e]; rfl)) h2)
theorem len_sub : ∀ {m t : List Int}, m.Nodup → (∀ x ∈ m, x ∈ t) → m.length ≤ t.length
  | [], _, _, _ => Nat.zero_le _
  | a :: m, t, nd, h => by
    have ha := h a List.mem_cons_self
    obtain ⟨n1, n2⟩ := List.nodup_cons.mp nd
    have := len_sub (m := m) (t := t.erase a) n2 fun x hx => (List.mem_erase_of_ne (fun e => n1 (by rw [← e]; exact hx))).mpr (h x (List.mem_cons_of_mem _ hx))
    rw [List.length_erase_of_mem ha] at this
    have := List.length_pos_of_mem ha
    rw [List.length_cons]
    omega
theorem word_sort : ¬ (("click" : Str) = "sort") := by decide
theorem word_sort2 : ¬ (("range" : Str) = "sort") := by decide
section
variable {wd : Nat} {rows : List (List Int)} (ht : Tb wd rows)
include ht
theorem stOk_of {s : List Key} (hs : s ∈ sorts wd) {m : List Int} (hm : m.Pairwise (· < ·)) (hl : m.length ≤ 20) (an : Option Int) : StOk wd rows (s, m, an) :=
  ⟨ht, sorts_srt ht.pos ht.wide s hs, by have := len_in ht.pos ht.wide hs; show s.length < 50; omega, hm, hl⟩
/-- clicks on heads -/
theorem heads_run {m : List Int} (hm : m.Pairwise (· < ·)) (hl : m.length ≤ 20) (an : Option Int) : ∀ (cs : List Int) (s : List Key), s ∈ sorts wd → (∀ c ∈ cs, 0 ≤ c ∧ c < (wd : Int)) →
    ScriptOk wd rows (s, m, an) (headsOf cs) ∧ runD rows (s, m, an) (headsOf cs) = (afterClicks s cs, m, an)
  | [], s, hs, h => ⟨scriptOk_nil, rfl⟩
  | c :: cs, s, hs, h => by
    have hc := h c List.mem_cons_self
    have e : stepS rows (s, m, an) ("sort", c) = (afterClick s c, m, an) := if_pos rfl
    obtain ⟨i1, i2⟩ := heads_run hm hl an cs (afterClick s c) (click_in ht.pos ht.wide hs hc) fun d hd => h d (List.mem_cons_of_mem _ hd)
    refine ⟨scriptOk_cons (stOk_of ht hs hm hl an) (.inl ⟨rfl, hc⟩) ?_, ?_⟩
    · rw [e]; exact i1
    · show runD rows (stepS rows (s, m, an) ("sort", c)) (headsOf cs) = _
      rw [e]; exact i2
/-- clicks on rows -/
theorem rows_run {s : List Key} (hs : s ∈ sorts wd) : ∀ (cs : List Deed) (m : List Int) (an : Option Int) (q q' : StF), FlagAt (orderIn rows s) m an q → runF q cs = some q' →
    ScriptOk wd rows (s, m, an) cs ∧ ∃ m' an', runD rows (s, m, an) cs = (s, m', an') ∧ FlagAt (orderIn rows s) m' an' q'
  | [], m, an, q, q', h, e => by
    cases e
    exact ⟨scriptOk_nil, m, an, rfl, h⟩
  | c :: cs, m, an, q, q', h, e => by
    unfold runF at e
    split at e
    · rename_i ok
      obtain ⟨k1, k2⟩ := step_flag (order_nodup rows s) h ok
      obtain ⟨i1, m', an', i2, i3⟩ := rows_run hs cs _ _ _ q' k2 e
      have hns : ¬ c.1 = "sort" := fun z => by
        rcases k1.word with h | h
        · rw [h] at z; exact word_sort z
        · rw [h.1] at z; exact word_sort2 z
      have es : stepS rows (s, m, an) c = (s, (markStep (orderIn rows s) m an c).1, (markStep (orderIn rows s) m an c).2) := if_neg hns
      have hml : m.length ≤ 20 := by
        have h1 := len_sub (nodup_of h.up) h.sub
        rw [orderIn_length] at h1
        have := ht.few
        omega
      refine ⟨scriptOk_cons (stOk_of ht hs h.up hml an) (.inr k1) ?_, m', an', ?_, i3⟩
      · rw [es]; exact i1
      · show runD rows (stepS rows (s, m, an) c) cs = _
        rw [es]; exact i2
    · cases e
end
end Lw
set_option linter.all false
set_option maxRecDepth 100000
set_option Elab.async false
set_option maxHeartbeats 4000000
namespace Lw
open PySem PySem.Spec PyProof.Rows L2
section
variable {wd : Nat} {rows : List (List Int)} (ht : Tb wd rows)
include ht
theorem flags_ok (s : List Key) (m : List Int) : FlagOk (flagsOf (orderIn rows s) m) := flag5 (by
  unfold flagsOf
  rw [List.length_map, orderIn_length]
  exact ht.few)
theorem even_ok (s : List Key) (m : List Int) : Even1 (orderIn rows s) m := by
  have := (flags_ok ht s m).2.1
  unfold Even1
  rw [cover_F]
  exact this
theorem cheap_len (s : List Key) (m : List Int) : ((cheapestIn (orderIn rows s) m).length : Int) = costIn (orderIn rows s) m := by
  rw [cheap_F, cost_F]
  exact (flags_ok ht s m).1
theorem cheap_few (s : List Key) (m : List Int) : (cheapestIn (orderIn rows s) m).length ≤ 5 := by
  rw [cheap_F]
  exact (flags_ok ht s m).2.2.2.1
theorem cost_nn (s : List Key) (m : List Int) : 0 ≤ costIn (orderIn rows s) m := by
  rw [cost_F]
  exact (flags_ok ht s m).2.2.2.2
theorem mem_order (s : List Key) {x : Int} (h : 0 ≤ x ∧ x < rows.length) : x ∈ orderIn rows s := (orderIn_perm rows s).mem_iff.mpr (mem_rg.mpr h)
/-- the cheapest clicks mark what they should -/
theorem cheap_run {s : List Key} (hs : s ∈ sorts wd) {m : List Int} (up : m.Pairwise (· < ·)) (inr : ∀ x ∈ m, 0 ≤ x ∧ x < (rows.length : Int)) :
    ScriptOk wd rows (s, [], none) (cheapestIn (orderIn rows s) m) ∧ ∃ an, runD rows (s, [], none) (cheapestIn (orderIn rows s) m) = (s, m, an) := by
  obtain ⟨a, ha⟩ := (flags_ok ht s m).2.2.1
  have f0 : FlagAt (orderIn rows s) [] none (List.replicate (flagsOf (orderIn rows s) m).length false, none) := by
    refine ⟨.nil, fun x h => absurd h List.not_mem_nil, ?_, rfl⟩
    unfold flagsOf
    rw [List.length_map]
    show List.replicate _ _ = _
    rw [← List.map_const']
    rfl
  rw [cheap_F]
  obtain ⟨h1, m', an, h2, h3⟩ := rows_run ht hs _ _ _ _ _ f0 ha
  refine ⟨h1, an, ?_⟩
  rw [h2, marks_eq h3.up up h3.sub (fun x hx => mem_order ht s (inr x hx)) h3.fl.symm]
end
/-! ### the nearest of many ways -/
theorem wayLt_len {a b : List Int} : (wayLt a b = true → a.length ≤ b.length) ∧ (wayLt a b = false → b.length ≤ a.length) := by
  unfold wayLt
  split
  · rename_i h
    exact ⟨fun _ => by omega, fun _ => by omega⟩
  · rename_i h
    rw [decide_eq_true_eq, decide_eq_false_iff_not]
    exact ⟨fun h => by omega, fun h => by omega⟩
/-- the first of the least is among them, and none is less, by some measure -/
theorem bestOf_min {β : Type} (lt : β → β → Bool) (f : β → Int) (h : ∀ a b, (lt a b = true → f a ≤ f b) ∧ (lt a b = false → f b ≤ f a)) : ∀ (l : List β) (b : β), bestOf lt b l ∈ b :: l ∧ ∀ x ∈ b :: l, f (bestOf lt b l) ≤ f x
  | [], b => ⟨List.mem_cons_self, fun x hx => by rw [List.mem_singleton.mp hx]; exact Int.le_refl _⟩
  | y :: l, b => by
    obtain ⟨i1, i2⟩ := bestOf_min lt f h l (if lt y b then y else b)
    have e : bestOf lt b (y :: l) = bestOf lt (if lt y b then y else b) l := rfl
    rw [e]
    have hc := i2 _ List.mem_cons_self
    constructor
    · rcases List.mem_cons.mp i1 with k | k
      · rw [k]
        split
        · exact List.mem_cons_of_mem _ List.mem_cons_self
        · exact List.mem_cons_self
      · exact List.mem_cons_of_mem _ (List.mem_cons_of_mem _ k)
    · intro x hx
      have hyb : f (if lt y b then y else b) ≤ f y ∧ f (if lt y b then y else b) ≤ f b := by
        split
        · rename_i q
          exact ⟨Int.le_refl _, (h y b).1 q⟩
        · rename_i q
          exact ⟨(h y b).2 (by simpa using q), Int.le_refl _⟩
      rcases List.mem_cons.mp hx with rfl | hx
      · exact Int.le_trans hc hyb.2
      · rcases List.mem_cons.mp hx with rfl | hx
        · exact Int.le_trans hc hyb.1
        · exact i2 x (List.mem_cons_of_mem _ hx)
theorem firstOf_some {ways : List (Option (List Int))} {w : List Int} (h : firstOf ways = some w) : some w ∈ ways ∧ ∀ v, some v ∈ ways → w.length ≤ v.length := by
  unfold firstOf at h
  cases q : ways.filterMap id with
  | nil => rw [q] at h; cases h
  | cons b r =>
    rw [q] at h
    cases h
    obtain ⟨i1, i2⟩ := bestOf_min wayLt (fun a => (a.length : Int)) (fun a b => ⟨fun h => by have := wayLt_len.1 h; omega, fun h => by have := wayLt_len.2 h; omega⟩) r b
    rw [← q] at i1 i2
    refine ⟨by simpa using i1, fun v hv => ?_⟩
    have := i2 v (by simpa using hv)
    omega
theorem firstOf_none {ways : List (Option (List Int))} (h : firstOf ways = none) : ∀ v, some v ∉ ways := fun v hv => by
  unfold firstOf at h
  have : v ∈ ways.filterMap id := by simpa using hv
  cases q : ways.filterMap id with
  | nil => rw [q] at this; cases this
  | cons b r => rw [q] at h; cases h
theorem nearest_some {wd : Nat} {rows : List (List Int)} {s : List Key} {o w : List Int} (h : nearestWay wd rows s o = some w) : (∃ g, g ∈ sorts wd ∧ orderIn rows g = o ∧ wayBetween s g = some w) ∧ ∀ g v, g ∈ sorts wd → orderIn rows g = o → wayBetween s g = some v → w.length ≤ v.length := by
  obtain ⟨h1, h2⟩ := firstOf_some h
  constructor
  · obtain ⟨g, hg, e⟩ := List.mem_map.mp h1
    obtain ⟨g1, g2⟩ := List.mem_filter.mp hg
    exact ⟨g, g1, of_decide_eq_true g2, e⟩
  · intro g v hg ho e
    exact h2 v (List.mem_map.mpr ⟨g, List.mem_filter.mpr ⟨hg, decide_eq_true ho⟩, e⟩)
theorem nearest_none {wd : Nat} {rows : List (List Int)} {s : List Key} {o : List Int} (h : nearestWay wd rows s o = none) : ∀ g, g ∈ sorts wd → orderIn rows g = o → wayBetween s g = none := fun g hg ho => by
  cases e : wayBetween s g with
  | none => rfl
  | some v => exact absurd (List.mem_map.mpr ⟨g, List.mem_filter.mpr ⟨hg, decide_eq_true ho⟩, e⟩) (firstOf_none h v)
/-! ### least numbers -/
def IsMin (S : Int → Prop) (o : Option Int) : Prop := (o = none → ∀ x, ¬ S x) ∧ ∀ x, o = some x → S x ∧ ∀ y, S y → x ≤ y
theorem IsMin.unique {S : Int → Prop} {o p : Option Int} (h : IsMin S o) (k : IsMin S p) : o = p := by
  cases o with
  | none =>
    cases p with
    | none => rfl
    | some y => exact absurd (k.2 y rfl).1 (h.1 rfl y)
  | some x =>
    cases p with
    | none => exact absurd (h.2 x rfl).1 (k.1 rfl x)
    | some y =>
      have a := (h.2 x rfl).2 y (k.2 y rfl).1
      have b := (k.2 y rfl).2 x (h.2 x rfl).1
      rw [show x = y by omega]
/-- the best of the plans -/
theorem better_min : ∀ (os : List (Option (List Deed))) (b : Option (List Deed)), IsMin (fun n => ∃ f, (some f ∈ os ∨ b = some f) ∧ n = (f.length : Int)) ((os.foldl better b).map fun f => (f.length : Int)) ∧ ∀ f, os.foldl better b = some f → some f ∈ os ∨ b = some f
  | [], b => by
    refine ⟨⟨fun h x ⟨f, hf, _⟩ => ?_, fun x h => ?_⟩, fun f h => .inr h⟩
    · rcases hf with hf | hf
      · cases hf
      · subst hf
        cases h
    · cases b with
      | none => cases h
      | some f =>
        cases h
        refine ⟨⟨f, .inr rfl, rfl⟩, fun y ⟨g, hg, e⟩ => ?_⟩
        rcases hg with hg | hg
        · cases hg
        · cases hg
          subst e
          exact Int.le_refl _
  | o :: os, b => by
    obtain ⟨i1, i2⟩ := better_min os (better b o)
    rw [List.foldl_cons]
    have bk : ∀ f, better b o = some f → some f ∈ o :: os ∨ b = some f := fun f h => by
      cases o with
      | none => exact .inr h
      | some g =>
        cases b with
        | none =>
          cases h
          exact .inl List.mem_cons_self
        | some c =>
          unfold better at h
          simp only at h
          split at h
          · cases h
            exact .inl List.mem_cons_self
          · exact .inr h
    have le : ∀ f, (some f ∈ o :: os ∨ b = some f) → ∃ g, (some g ∈ os ∨ better b o = some g) ∧ g.length ≤ f.length := fun f h => by
      rcases h with h | h
      · rcases List.mem_cons.mp h with h | h
        · subst h
          cases b with
          | none => exact ⟨f, .inr rfl, Nat.le_refl _⟩
          | some c =>
            unfold better
            simp only
            split
            · exact ⟨f, .inr rfl, Nat.le_refl _⟩
            · exact ⟨c, .inr rfl, by omega⟩
        · exact ⟨f, .inl h, Nat.le_refl _⟩
      · subst h
        cases o with
        | none => exact ⟨f, .inr rfl, Nat.le_refl _⟩
        | some c =>
          unfold better
          simp only
          split
          · exact ⟨c, .inr rfl, by omega⟩
          · exact ⟨f, .inr rfl, Nat.le_refl _⟩
    refine ⟨⟨fun h x ⟨f, hf, e⟩ => ?_, fun x h => ?_⟩, fun f h => ?_⟩
    · obtain ⟨g, hg, _⟩ := le f hf
      exact i1.1 h _ ⟨g, hg, rfl⟩
    · obtain ⟨⟨f, hf, e⟩, k⟩ := i1.2 x h
      refine ⟨⟨f, ?_, e⟩, fun y ⟨g, hg, e2⟩ => ?_⟩
      · rcases hf with hf | hf
        · exact .inl (List.mem_cons_of_mem _ hf)
        · exact bk f hf
      · obtain ⟨g', hg', l⟩ := le g hg
        have := k _ ⟨g', hg', rfl⟩
        omega
    · rcases i2 f h with h | h
      · exact .inl (List.mem_cons_of_mem _ h)
      · exact bk f h
end Lw
set_option linter.all false
set_option maxRecDepth 100000
set_option Elab.async false
set_option maxHeartbeats 4000000
namespace Lw
open PySem PySem.Spec PyProof.Rows L2
/-! ### what the law computes, plainly -/
abbrev LW := Int × List Int × Int × List Key
def lawWays (wd : Nat) (rows : List (List Int)) (s : List Key) (m : List Int) : List LW := (sorts wd).filterMap fun g => (wayBetween s g).map fun w => ((w.length : Int), w, costIn (orderIn rows g) m, g)
def lawStops (ways : List LW) (g : List Key) : List S4 := ways.filterMap fun q => (wayBetween q.2.2.2 g).map fun b => (q.1 + q.2.2.1 + (b.length : Int), q.1, q.2.1, b)
def lawStop (ways : List LW) (g : List Key) : Option (Int × List Int × List Int) := best4 (lawStops ways g)
def minI : List Int → Option Int
  | [] => none
  | b :: r => some (bestOf (fun a b => decide (a < b)) b r)
def lawDue (wd : Nat) (rows : List (List Int)) (ways : List LW) (o : List Int) : Option Int := minI (((showing wd rows o).map (lawStop ways)).filterMap fun x => x.map (·.1))
def lawLeast (ways : List LW) : Option Int := minI (ways.map fun q => q.1 + q.2.2.1)
theorem stops_eq (wd : Nat) (rows : List (List Int)) (s g : List Key) (m : List Int) : lawStops (lawWays wd rows s m) g = stopsFound s g (costsBy wd rows m) := by
  unfold lawStops lawWays stopsFound costsBy
  rw [List.filterMap_filterMap, List.filterMap_map]
  congr 1
  funext h
  simp only [Function.comp]
  cases e1 : wayBetween s h with
  | none => rfl
  | some a =>
    cases e2 : wayBetween h g with
    | none => simp [e2]
    | some b =>
      simp only [Option.map_some, Option.bind_some, e2]
      rw [Int.add_comm (a.length : Int)]
theorem ltI_le {a b : Int} {k : Bool} : (ltI a b k = true → a ≤ b) ∧ (ltI a b k = false → b ≤ a) := by
  unfold ltI
  split
  · exact ⟨fun _ => by omega, fun _ => by omega⟩
  · rw [decide_eq_true_eq, decide_eq_false_iff_not]
    exact ⟨fun h => by omega, fun h => by omega⟩
theorem best4_some {l : List S4} {x : Int × List Int × List Int} (h : best4 l = some x) : (∃ y ∈ l, y.1 = x.1) ∧ ∀ z ∈ l, x.1 ≤ z.1 := by
  cases l with
  | nil => cases h
  | cons b r =>
    cases h
    obtain ⟨i1, i2⟩ := bestOf_min lt4 (fun y => y.1) (fun a b => ltI_le) r b
    exact ⟨⟨_, i1, rfl⟩, i2⟩
theorem best4_none {l : List S4} (h : best4 l = none) : l = [] := by
  cases l with
  | nil => rfl
  | cons b r => cases h
theorem minI_min (l : List Int) : IsMin (fun x => x ∈ l) (minI l) := by
  cases l with
  | nil => exact ⟨fun _ x h => absurd h List.not_mem_nil, fun x h => nomatch h⟩
  | cons b r =>
    obtain ⟨i1, i2⟩ := bestOf_min (fun a b : Int => decide (a < b)) (fun y => y) (fun a b => by simp only [decide_eq_true_eq, decide_eq_false_iff_not]; exact ⟨fun h => by omega, fun h => by omega⟩) r b
    exact ⟨fun h => (nomatch h), fun x h => (by cases h; exact ⟨i1, i2⟩)⟩
theorem IsMin.iff {S T : Int → Prop} {o : Option Int} (h : IsMin S o) (k : ∀ x, S x ↔ T x) : IsMin T o := by
  have : S = T := funext fun x => propext (k x)
  exact this ▸ h
/-- same least, where each has one as good in the other -/
theorem IsMin.swap {S T : Int → Prop} {o : Option Int} (h : IsMin S o) (a : ∀ x, S x → T x) (b : ∀ x, T x → ∃ y, S y ∧ y ≤ x) : IsMin T o :=
  ⟨fun e x t => by
    obtain ⟨y, hy, _⟩ := b x t
    exact h.1 e y hy, fun x e => ⟨a x (h.2 x e).1, fun y t => by
    obtain ⟨z, hz, l⟩ := b y t
    have := (h.2 x e).2 z hz
    omega⟩⟩
/-- lengths of deeds by way of one sorting to an order; to any -/
def SO (wd : Nat) (rows : List (List Int)) (s : List Key) (o m : List Int) (x : Int) : Prop := ∃ stop g a b, stop ∈ sorts wd ∧ g ∈ sorts wd ∧ orderIn rows g = o ∧ wayBetween s stop = some a ∧ wayBetween stop g = some b ∧ x = (a.length : Int) + costIn (orderIn rows stop) m + b.length
def SN (wd : Nat) (rows : List (List Int)) (s : List Key) (m : List Int) (x : Int) : Prop := ∃ stop a, stop ∈ sorts wd ∧ wayBetween s stop = some a ∧ x = (a.length : Int) + costIn (orderIn rows stop) m
theorem mem_stops {wd : Nat} {rows : List (List Int)} {s g : List Key} {m : List Int} {y : S4} : y ∈ lawStops (lawWays wd rows s m) g ↔ ∃ stop a b, stop ∈ sorts wd ∧ wayBetween s stop = some a ∧ wayBetween stop g = some b ∧ y = ((a.length : Int) + costIn (orderIn rows stop) m + (b.length : Int), (a.length : Int), a, b) := by
  unfold lawStops lawWays
  simp only [List.mem_filterMap, Option.map_eq_some_iff]
  constructor
  · rintro ⟨q, ⟨stop, hs, a, e1, rfl⟩, b, e2, rfl⟩
    exact ⟨stop, a, b, hs, e1, e2, rfl⟩
  · rintro ⟨stop, a, b, hs, e1, e2, rfl⟩
    exact ⟨_, ⟨stop, hs, a, e1, rfl⟩, b, e2, rfl⟩
theorem due_min (wd : Nat) (rows : List (List Int)) (s : List Key) (o m : List Int) : IsMin (SO wd rows s o m) (lawDue wd rows (lawWays wd rows s m) o) := by
  refine (minI_min _).swap (fun x hx => ?_) fun x hx => ?_
  · obtain ⟨z, hz, e⟩ := List.mem_filterMap.mp hx
    obtain ⟨g, hg, e2⟩ := List.mem_map.mp hz
    obtain ⟨g1, g2⟩ := List.mem_filter.mp hg
    obtain ⟨w, rfl, rfl⟩ := Option.map_eq_some_iff.mp e
    obtain ⟨⟨y, hy, e3⟩, _⟩ := best4_some e2
    obtain ⟨stop, a, b, hs, k1, k2, rfl⟩ := mem_stops.mp hy
    exact ⟨stop, g, a, b, hs, g1, of_decide_eq_true g2, k1, k2, e3.symm⟩
  · obtain ⟨stop, g, a, b, hs, hg, ho, k1, k2, rfl⟩ := hx
    have hy := (mem_stops (rows := rows) (m := m)).mpr ⟨stop, a, b, hs, k1, k2, rfl⟩
    cases e : lawStop (lawWays wd rows s m) g with
    | none =>
      rw [best4_none e] at hy
      cases hy
    | some w =>
      refine ⟨w.1, List.mem_filterMap.mpr ⟨some w, List.mem_map.mpr ⟨g, List.mem_filter.mpr ⟨hg, decide_eq_true ho⟩, e⟩, rfl⟩, ?_⟩
      exact (best4_some e).2 _ hy
theorem least_min (wd : Nat) (rows : List (List Int)) (s : List Key) (m : List Int) : IsMin (SN wd rows s m) (lawLeast (lawWays wd rows s m)) := by
  refine (minI_min _).iff fun x => ?_
  unfold lawWays SN
  simp only [List.mem_map, List.mem_filterMap, Option.map_eq_some_iff]
  constructor
  · rintro ⟨q, ⟨g, hg, a, e, rfl⟩, rfl⟩
    exact ⟨g, a, hg, e, rfl⟩
  · rintro ⟨g, a, hg, e, rfl⟩
    exact ⟨_, ⟨g, hg, a, e, rfl⟩, rfl⟩
section
variable {wd : Nat} {rows : List (List Int)} (ht : Tb wd rows)
include ht
theorem plan_len {s stop : List Key} {o : Option (List Int)} {m : List Int} {f : List Deed} (h : planBy wd rows s stop o m = some f) : ∃ a b, wayBetween s stop = some a ∧ backTo' wd rows stop o = some b ∧ f = headsOf a ++ cheapestIn (orderIn rows stop) m ++ headsOf b ∧ (f.length : Int) = (a.length : Int) + costIn (orderIn rows stop) m + b.length := by
  unfold planBy at h
  cases e1 : wayBetween s stop with
  | none => rw [e1] at h; cases h
  | some a =>
    cases e2 : backTo' wd rows stop o with
    | none => rw [e1, e2] at h; cases h
    | some b =>
      rw [e1, e2] at h
      cases h
      refine ⟨a, b, rfl, rfl, rfl, ?_⟩
      rw [← cheap_len ht stop m, List.length_append, List.length_append]
      unfold headsOf
      rw [List.length_map, List.length_map]
      omega
theorem best_fold (s : List Key) (o : Option (List Int)) (m : List Int) : bestPlan wd rows s o m = ((sorts wd).map fun stop => planBy wd rows s stop o m).foldl better none := by
  unfold bestPlan
  rw [List.foldl_map]
theorem best_min (s : List Key) (o : Option (List Int)) (m : List Int) : IsMin (fun n => ∃ stop f, stop ∈ sorts wd ∧ planBy wd rows s stop o m = some f ∧ n = (f.length : Int)) ((bestPlan wd rows s o m).map fun f => (f.length : Int)) ∧ ∀ f, bestPlan wd rows s o m = some f → ∃ stop ∈ sorts wd, planBy wd rows s stop o m = some f := by
  rw [best_fold ht]
  obtain ⟨i1, i2⟩ := better_min ((sorts wd).map fun stop => planBy wd rows s stop o m) none
  refine ⟨i1.iff fun x => ?_, fun f h => ?_⟩
  · constructor
    · rintro ⟨f, h | h, e⟩
      · obtain ⟨stop, hs, k⟩ := List.mem_map.mp h
        exact ⟨stop, f, hs, k, e⟩
      · cases h
    · rintro ⟨stop, f, hs, k, e⟩
      exact ⟨f, .inl (List.mem_map.mpr ⟨stop, hs, k⟩), e⟩
  · rcases i2 f h with h | h
    · obtain ⟨stop, hs, k⟩ := List.mem_map.mp h
      exact ⟨stop, hs, k⟩
    · cases h
theorem plan_min_o (s : List Key) (o m : List Int) : IsMin (SO wd rows s o m) ((bestPlan wd rows s (some o) m).map fun f => (f.length : Int)) := by
  refine (best_min ht s (some o) m).1.swap (fun x hx => ?_) fun x hx => ?_
  · obtain ⟨stop, f, hs, k, rfl⟩ := hx
    obtain ⟨a, b, e1, e2, _, e3⟩ := plan_len ht k
    obtain ⟨⟨g, g1, g2, g3⟩, _⟩ := nearest_some (show nearestWay wd rows stop o = some b from e2)
    exact ⟨stop, g, a, b, hs, g1, g2, e1, g3, e3⟩
  · obtain ⟨stop, g, a, b, hs, hg, ho, k1, k2, rfl⟩ := hx
    cases e : nearestWay wd rows stop o with
    | none =>
      rw [nearest_none e g hg ho] at k2
      cases k2
    | some c =>
      have hc := (nearest_some e).2 g b hg ho k2
      have k : planBy wd rows s stop (some o) m = some (headsOf a ++ cheapestIn (orderIn rows stop) m ++ headsOf c) := by
        unfold planBy
        rw [k1, show backTo' wd rows stop (some o) = some c from e]
      refine ⟨_, ⟨stop, _, hs, k, rfl⟩, ?_⟩
      obtain ⟨a', b', e1, e2, _, e3⟩ := plan_len ht k
      rw [k1] at e1
      cases e1
      rw [show backTo' wd rows stop (some o) = some c from e] at e2
      cases e2
      omega
theorem plan_min_n (s : List Key) (m : List Int) : IsMin (SN wd rows s m) ((bestPlan wd rows s none m).map fun f => (f.length : Int)) := by
  refine (best_min ht s none m).1.iff fun x => ?_
  constructor
  · rintro ⟨stop, f, hs, k, rfl⟩
    obtain ⟨a, b, e1, e2, _, e3⟩ := plan_len ht k
    cases e2
    exact ⟨stop, a, hs, e1, by simpa using e3⟩
  · rintro ⟨stop, a, hs, k1, rfl⟩
    have k : planBy wd rows s stop none m = some (headsOf a ++ cheapestIn (orderIn rows stop) m ++ headsOf []) := by
      unfold planBy
      rw [k1]
      rfl
    refine ⟨stop, _, hs, k, ?_⟩
    obtain ⟨a', b', e1, e2, _, e3⟩ := plan_len ht k
    rw [k1] at e1
    cases e1
    cases e2
    simpa using e3.symm
/-- a plan is as long as is due -/
theorem plan_due (s : List Key) (o m : List Int) : ((bestPlan wd rows s (some o) m).map fun f => (f.length : Int)) = lawDue wd rows (lawWays wd rows s m) o := (plan_min_o ht s o m).unique (due_min wd rows s o m)
theorem plan_least (s : List Key) (m : List Int) : ((bestPlan wd rows s none m).map fun f => (f.length : Int)) = lawLeast (lawWays wd rows s m) := (plan_min_n ht s m).unique (least_min wd rows s m)
theorem least_some {s : List Key} (hs : s ∈ sorts wd) (m : List Int) : ∃ x, lawLeast (lawWays wd rows s m) = some x := by
  cases e : lawLeast (lawWays wd rows s m) with
  | none => exact absurd ⟨s, [], hs, way_self ht.pos ht.wide hs, rfl⟩ ((least_min wd rows s m).1 e _)
  | some x => exact ⟨x, rfl⟩
theorem least_le {s : List Key} {o m : List Int} {x d : Int} (h1 : lawLeast (lawWays wd rows s m) = some x) (h2 : lawDue wd rows (lawWays wd rows s m) o = some d) : x ≤ d := by
  obtain ⟨stop, g, a, b, hs, hg, ho, k1, k2, e⟩ := ((due_min wd rows s o m).2 d h2).1
  have := ((least_min wd rows s m).2 x h1).2 _ ⟨stop, a, hs, k1, rfl⟩
  omega
/-- a stop is as long as the way itself at least -/
theorem stop_dist {s g : List Key} (hs : s ∈ sorts wd) (hg : g ∈ sorts wd) {m : List Int} {x : Int × List Int × List Int} (h : lawStop (lawWays wd rows s m) g = some x) : ∃ d, wayBetween s g = some d ∧ (d.length : Int) ≤ x.1 := by
  obtain ⟨⟨y, hy, e⟩, _⟩ := best4_some h
  obtain ⟨stop, a, b, hst, k1, k2, rfl⟩ := mem_stops.mp hy
  obtain ⟨d, k3, l⟩ := tri ht.pos ht.wide hs hst hg k1 k2
  refine ⟨d, k3, ?_⟩
  have := cost_nn ht stop m
  rw [← e]
  show (d.length : Int) ≤ (a.length : Int) + costIn (orderIn rows stop) m + b.length
  omega
theorem cost_none (s : List Key) : costIn (orderIn rows s) [] = 0 := by
  rw [cost_F]
  have e : flagsOf (orderIn rows s) [] = List.replicate rows.length false := by
    unfold flagsOf
    rw [← orderIn_length rows s, ← List.map_const']
    first | rfl | (congr 1; funext x; simp)
  rw [e]
  exact (costF_none _ ht.few).1
/-- without marks a plan is as long as the nearest way -/
theorem near_min {s : List Key} (hs : s ∈ sorts wd) (o : List Int) : IsMin (SO wd rows s o []) ((nearestWay wd rows s o).map fun w => (w.length : Int)) := by
  constructor
  · intro h x hx
    obtain ⟨stop, g, a, b, hst, hg, ho, k1, k2, rfl⟩ := hx
    obtain ⟨d, k3, _⟩ := tri ht.pos ht.wide hs hst hg k1 k2
    rw [nearest_none (Option.map_eq_none_iff.mp h) g hg ho] at k3
    cases k3
  · intro x h
    obtain ⟨w, e, rfl⟩ := Option.map_eq_some_iff.mp h
    obtain ⟨⟨g, g1, g2, g3⟩, le⟩ := nearest_some e
    refine ⟨⟨s, g, [], w, hs, g1, g2, way_self ht.pos ht.wide hs, g3, by rw [cost_none ht]; simp⟩, fun y hy => ?_⟩
    obtain ⟨stop, g', a, b, hst, hg', ho, k1, k2, rfl⟩ := hy
    obtain ⟨d, k3, l⟩ := tri ht.pos ht.wide hs hst hg' k1 k2
    have := le g' d hg' ho k3
    rw [cost_none ht]
    omega
theorem plan_near {s : List Key} (hs : s ∈ sorts wd) (o : List Int) : ((bestPlan wd rows s (some o) []).map fun f => (f.length : Int)) = (nearestWay wd rows s o).map fun w => (w.length : Int) := (plan_min_o ht s o []).unique (near_min ht hs o)
theorem near_due {s : List Key} (hs : s ∈ sorts wd) (o m : List Int) : nearestWay wd rows s o = none ↔ lawDue wd rows (lawWays wd rows s m) o = none := by
  constructor
  · intro h
    cases e : lawDue wd rows (lawWays wd rows s m) o with
    | none => rfl
    | some d =>
      obtain ⟨stop, g, a, b, hst, hg, ho, k1, k2, _⟩ := ((due_min wd rows s o m).2 d e).1
      exact absurd ⟨stop, g, a, b, hst, hg, ho, k1, k2, rfl⟩ ((near_min ht hs o).1 (by rw [h]; rfl) _)
  · intro h
    cases e : nearestWay wd rows s o with
    | none => rfl
    | some w =>
      obtain ⟨⟨g, g1, g2, g3⟩, _⟩ := nearest_some e
      exact absurd ⟨s, g, [], w, hs, g1, g2, way_self ht.pos ht.wide hs, g3, rfl⟩ ((due_min wd rows s o m).1 h _)
theorem near_nil {s : List Key} (hs : s ∈ sorts wd) {o m : List Int} (h : nearestWay wd rows s o = some []) {d : Int} (hd : lawDue wd rows (lawWays wd rows s m) o = some d) : d ≤ costIn o m := by
  obtain ⟨⟨g, g1, g2, g3⟩, _⟩ := nearest_some h
  have := way_nil ht.pos ht.wide hs g1 g3
  subst this
  have := ((due_min wd rows s o m).2 d hd).2 _ ⟨s, s, [], [], hs, hs, g2, way_self ht.pos ht.wide hs, g3, rfl⟩
  rw [g2] at this
  simpa using this
end
/-! ### the cheapest sorting -/
def ways3 (ways : List LW) : List S3 := ways.map fun q => (q.1 + q.2.2.1, q.1, q.2.1)
def pr3 (a : S4k) : S3 := (a.1, a.2.1, a.2.2.1)
theorem lt43 {a b : S4k} : (lt3 (pr3 a) (pr3 b) = true → lt4k a b = true) ∧ (lt4k a b = true → lt3 (pr3 a) (pr3 b) = true ∨ pr3 a = pr3 b) := by
  obtain ⟨a1, a2, a3, a4⟩ := a
  obtain ⟨b1, b2, b3, b4⟩ := b
  show (ltI a1 b1 (ltI a2 b2 (ltL a3 b3 false)) = true → ltI a1 b1 (ltI a2 b2 (ltL a3 b3 (ltKs a4 b4))) = true) ∧ (ltI a1 b1 (ltI a2 b2 (ltL a3 b3 (ltKs a4 b4))) = true → ltI a1 b1 (ltI a2 b2 (ltL a3 b3 false)) = true ∨ (a1, a2, a3) = (b1, b2, b3))
  have iI : ∀ (a b : Int) (k k' : Bool) (E : Prop), ((k = true → k' = true) ∧ (k' = true → k = true ∨ E)) → (ltI a b k = true → ltI a b k' = true) ∧ (ltI a b k' = true → ltI a b k = true ∨ (a = b ∧ E)) := fun a b k k' E h => by
    unfold ltI
    by_cases e : a = b
    · rw [if_pos e, if_pos e]
      exact ⟨h.1, fun z => (h.2 z).imp id fun q => ⟨e, q⟩⟩
    · rw [if_neg e, if_neg e]
      exact ⟨id, .inl⟩
  have iL : (ltL a3 b3 false = true → ltL a3 b3 (ltKs a4 b4) = true) ∧ (ltL a3 b3 (ltKs a4 b4) = true → ltL a3 b3 false = true ∨ a3 = b3) := by
    unfold ltL
    by_cases e : a3 = b3
    · rw [if_pos e, if_pos e]
      exact ⟨fun h => (nomatch h), fun _ => .inr e⟩
    · rw [if_neg e, if_neg e]
      exact ⟨id, .inl⟩
  have r := iI a1 b1 _ _ _ (iI a2 b2 _ _ _ iL)
  exact ⟨r.1, fun z => (r.2 z).imp id fun ⟨e1, e2, e3⟩ => by rw [e1, e2, e3]⟩
theorem best_pr3 : ∀ (l : List S4k) (b : S4k), pr3 (bestOf lt4k b l) = bestOf lt3 (pr3 b) (l.map pr3)
  | [], b => rfl
  | x :: l, b => by
    show pr3 (bestOf lt4k (if lt4k x b then x else b) l) = bestOf lt3 (if lt3 (pr3 x) (pr3 b) then pr3 x else pr3 b) (l.map pr3)
    rw [best_pr3 l]
    congr 1
    by_cases h : lt4k x b = true
    · rw [if_pos h]
      rcases lt43.2 h with k | k
      · rw [if_pos k]
      · rw [k]
        split <;> rfl
    · rw [if_neg h, if_neg fun z => h (lt43.1 z)]
theorem heads_pr3 (wd : Nat) (rows : List (List Int)) (s : List Key) (m : List Int) : (headsFound s (costsBy wd rows m)).map pr3 = ways3 (lawWays wd rows s m) := by
  unfold headsFound costsBy ways3 lawWays
  rw [List.filterMap_map, List.map_filterMap, List.map_filterMap]
  congr 1
  funext g
  simp only [Function.comp]
  cases wayBetween s g with
  | none => rfl
  | some a =>
    simp only [Option.map_some, pr3]
    rw [Int.add_comm]
theorem bestOf_mem {β : Type} (lt : β → β → Bool) : ∀ (l : List β) (b : β), bestOf lt b l ∈ b :: l
  | [], b => List.mem_cons_self
  | y :: l, b => by
    have := bestOf_mem lt l (if lt y b then y else b)
    show bestOf lt (if lt y b then y else b) l ∈ _
    rcases List.mem_cons.mp this with k | k
    · rw [k]
      split
      · exact List.mem_cons_of_mem _ List.mem_cons_self
      · exact List.mem_cons_self
    · exact List.mem_cons_of_mem _ (List.mem_cons_of_mem _ k)
section
variable {wd : Nat} {rows : List (List Int)} (ht : Tb wd rows)
include ht
theorem heads_cons {s : List Key} (hs : s ∈ sorts wd) (m : List Int) : ∃ b0 r, headsFound s (costsBy wd rows m) = b0 :: r := by
  cases e : headsFound s (costsBy wd rows m) with
  | cons b r => exact ⟨b, r, rfl⟩
  | nil =>
    exfalso
    have : (costIn (orderIn rows s) m + (([] : List Int).length : Int), (([] : List Int).length : Int), ([] : List Int), s) ∈ headsFound s (costsBy wd rows m) := by
      unfold headsFound costsBy
      simp only [List.mem_filterMap, List.mem_map, Option.map_eq_some_iff]
      exact ⟨_, ⟨s, hs, rfl⟩, [], way_self ht.pos ht.wide hs, rfl⟩
    rw [e] at this
    cases this
theorem cheapest_eq {s : List Key} (hs : s ∈ sorts wd) {m : List Int} {b0 : S4k} {r : List S4k} (h : headsFound s (costsBy wd rows m) = b0 :: r) :
    ways3 (lawWays wd rows s m) = pr3 b0 :: r.map pr3 ∧ pr3 (bestOf lt4k b0 r) = bestOf lt3 (pr3 b0) (r.map pr3) ∧ (bestOf lt4k b0 r).2.2.2 = afterClicks s (bestOf lt4k b0 r).2.2.1 ∧ ∀ c ∈ (bestOf lt4k b0 r).2.2.1, 0 ≤ c ∧ c < (wd : Int) := by
  refine ⟨by rw [← heads_pr3, h]; rfl, best_pr3 r b0, ?_⟩
  have hm := bestOf_mem lt4k r b0
  rw [← h] at hm
  unfold headsFound costsBy at hm
  simp only [List.mem_filterMap, List.mem_map, Option.map_eq_some_iff] at hm
  obtain ⟨p, ⟨g, hg, rfl⟩, a, e, k⟩ := hm
  rw [← k]
  have := way_ok ht.pos ht.wide hs hg e
  exact ⟨this.1.symm, this.2.1⟩
end
end Lw
set_option linter.all false
set_option maxRecDepth 100000
set_option Elab.async false
set_option maxHeartbeats 4000000
namespace Lw
open PySem PySem.Spec PyProof.Rows L2
/-! ### what a plan does -/
theorem pairUp_word : ∀ (l : List Int), ∀ d ∈ pairUp l, d.1 = "click" ∨ d.1 = "range"
  | [], d, h => by cases h
  | [a], d, h => by cases h
  | a :: b :: r, d, h => by
    rcases List.mem_cons.mp h with rfl | h
    · exact .inl rfl
    · rcases List.mem_cons.mp h with rfl | h
      · exact .inr rfl
      · exact pairUp_word r d h
theorem cheap_word (t m : List Int) : ∀ d ∈ cheapestIn t m, d.1 = "click" ∨ d.1 = "range" := fun d h => by
  unfold cheapestIn clicksIn at h
  rcases List.mem_append.mp h with h | h
  · exact pairUp_word _ d h
  · obtain ⟨x, _, rfl⟩ := List.mem_map.mp h
    exact .inl rfl
structure PlanDoes (wd : Nat) (rows : List (List Int)) (hs : List Int) (o : Option (List Int)) (m : List Int) (f : List Deed) : Prop where
  ok : ScriptOk wd rows ([], [], none) (headsOf hs ++ f)
  run : ∃ s' an, runD rows ([], [], none) (headsOf hs ++ f) = (s', m, an) ∧ s' ∈ sorts wd ∧ ∀ x, o = some x → orderIn rows s' = x
  words : ∃ a ks b, f = headsOf a ++ ks ++ headsOf b ∧ ∀ d ∈ ks, d.1 = "click" ∨ d.1 = "range"
  few : f.length ≤ 30
section
variable {wd : Nat} {rows : List (List Int)} (ht : Tb wd rows)
include ht
theorem heads0 {hs : List Int} (hh : ∀ c ∈ hs, 0 ≤ c ∧ c < (wd : Int)) : ScriptOk wd rows ([], [], none) (headsOf hs) ∧ runD rows ([], [], none) (headsOf hs) = (afterClicks [] hs, [], none) ∧ afterClicks [] hs ∈ sorts wd :=
  let h := heads_run ht .nil (Nat.zero_le _) none hs [] (nil_in ht.pos ht.wide) hh
  ⟨h.1, h.2, clicks_in ht.pos ht.wide (nil_in ht.pos ht.wide) hh⟩
theorem plan_small {s stop : List Key} (hs : s ∈ sorts wd) (hst : stop ∈ sorts wd) {o : Option (List Int)} {m : List Int} {f : List Deed} (h : planBy wd rows s stop o m = some f) : f.length ≤ 30 := by
  obtain ⟨a, b, e1, e2, rfl, _⟩ := plan_len ht h
  have ha := (way_ok ht.pos ht.wide hs hst e1).2.2
  have hb : b.length ≤ 8 := by
    cases o with
    | none => cases e2; exact Nat.zero_le _
    | some x =>
      obtain ⟨⟨g, g1, g2, g3⟩, _⟩ := nearest_some (show nearestWay wd rows stop x = some b from e2)
      exact (way_ok ht.pos ht.wide hst g1 g3).2.2
  have hc := cheap_few ht stop m
  unfold headsOf
  rw [List.length_append, List.length_append, List.length_map, List.length_map]
  omega
theorem plan_does {hs : List Int} (hh : ∀ c ∈ hs, 0 ≤ c ∧ c < (wd : Int)) {o : Option (List Int)} {m : List Int} (up : m.Pairwise (· < ·)) (inr : ∀ x ∈ m, 0 ≤ x ∧ x < (rows.length : Int)) {f : List Deed} (h : bestPlan wd rows (afterClicks [] hs) o m = some f) : PlanDoes wd rows hs o m f := by
  obtain ⟨h1, h2, h3⟩ := heads0 ht hh
  obtain ⟨stop, hst, k⟩ := (best_min ht _ o m).2 f h
  have few := plan_small ht h3 hst k
  obtain ⟨a, b, e1, e2, rfl, _⟩ := plan_len ht k
  have wa := way_ok ht.pos ht.wide h3 hst e1
  obtain ⟨r1, r2⟩ := heads_run ht .nil (Nat.zero_le _) none a _ h3 wa.2.1
  rw [wa.1] at r2
  obtain ⟨c1, an, c2⟩ := cheap_run ht hst up inr
  have hml : m.length ≤ 20 := by
    have h1 := len_sub (nodup_of up) (fun x hx => mem_order ht stop (inr x hx))
    rw [orderIn_length] at h1
    have := ht.few
    omega
  have hb : (∀ c ∈ b, 0 ≤ c ∧ c < (wd : Int)) ∧ ∀ x, o = some x → orderIn rows (afterClicks stop b) = x := by
    cases o with
    | none =>
      cases e2
      exact ⟨fun c h => absurd h List.not_mem_nil, fun x h => nomatch h⟩
    | some x =>
      obtain ⟨⟨g, g1, g2, g3⟩, _⟩ := nearest_some (show nearestWay wd rows stop x = some b from e2)
      have wb := way_ok ht.pos ht.wide hst g1 g3
      refine ⟨wb.2.1, fun y hy => ?_⟩
      cases hy
      rw [wb.1]
      exact g2
  obtain ⟨b1, b2⟩ := heads_run ht up hml an b stop hst hb.1
  refine ⟨?_, ⟨afterClicks stop b, an, ?_, clicks_in ht.pos ht.wide hst hb.1, hb.2⟩, ⟨a, _, b, rfl, cheap_word _ _⟩, few⟩
  · refine scriptOk_app h1 ?_
    rw [h2]
    refine scriptOk_app (scriptOk_app r1 ?_) ?_
    · rw [r2]; exact c1
    · rw [runD_app, r2, c2]; exact b1
  · rw [runD_app, h2, runD_app, runD_app, r2, c2, b2]
end
end Lw
set_option Elab.async false
set_option linter.all false
set_option maxRecDepth 100000
set_option maxHeartbeats 4000000
/-! # keys that are drawn -/
namespace Lw
open PySem PySem.Spec PyProof.Rows L2
/-- the keys so far, the columns left -/
structure KeyInv (wd j : Nat) (ks : List Key) (ls : List Int) : Prop where
  len : ks.length = j
  left : ls.length + j = wd
  nd : (ks.map (·.1) ++ ls).Nodup
  inr : ∀ x ∈ ks.map (·.1) ++ ls, 0 ≤ x ∧ x < wd
  sg : ∀ k ∈ ks, k.2 = 1 ∨ k.2 = -1
theorem eraseIdx_map' {α β : Type} (f : α → β) : ∀ (l : List α) (i : Nat), (l.map f).eraseIdx i = (l.eraseIdx i).map f
  | [], i => by simp
  | a :: l, 0 => rfl
  | a :: l, i + 1 => by
    show f a :: (l.map f).eraseIdx i = f a :: (l.eraseIdx i).map f
    rw [eraseIdx_map' f l i]
theorem perm_erase : ∀ (l : List Int) (i : Nat) (h : i < l.length), (l[i] :: l.eraseIdx i).Perm l
  | a :: l, 0, h => List.Perm.refl _
  | a :: l, i + 1, h => by
    have ih := perm_erase l i (by simpa using h)
    show (l[i]'(by simpa using h) :: a :: l.eraseIdx i).Perm (a :: l)
    exact (List.Perm.swap _ _ _).trans (List.Perm.cons _ ih)
theorem KeyInv.step {wd j : Nat} {ks : List Key} {ls : List Int} (h : KeyInv wd j ks ls) {i : Nat} (hi : i < ls.length) {g : Int} (hg : g = 1 ∨ g = -1) : KeyInv wd (j + 1) (ks ++ [(ls[i], g)]) (ls.eraseIdx i) := by
  have p : ((ks ++ [(ls[i], g)]).map (·.1) ++ ls.eraseIdx i).Perm (ks.map (·.1) ++ ls) := by
    rw [List.map_append, List.append_assoc]
    refine List.Perm.append_left _ ?_
    exact perm_erase ls i hi
  refine ⟨by rw [List.length_append, h.len]; rfl, ?_, p.nodup_iff.mpr h.nd, fun x hx => h.inr x (p.mem_iff.mp hx), fun k hk => ?_⟩
  · have := h.left
    rw [List.length_eraseIdx_of_lt hi]
    omega
  · rcases List.mem_append.mp hk with hk | hk
    · exact h.sg k hk
    · rw [List.mem_singleton.mp hk]
      exact hg
theorem KeyInv.srt {wd j : Nat} {ks : List Key} {ls : List Int} (h : KeyInv wd j ks ls) (hw : wd ≤ 2) : Srt wd ks := by
  have hl := h.left
  refine ⟨⟨(List.nodup_append.mp h.nd).1, fun k hk => ?_⟩, by rw [h.len]; omega, fun k hk => ?_⟩
  · exact ⟨(h.inr k.1 (List.mem_append_left _ (List.mem_map_of_mem hk))).1, h.sg k hk⟩
  · exact (h.inr k.1 (List.mem_append_left _ (List.mem_map_of_mem hk))).2
theorem KeyInv.start (wd : Nat) : KeyInv wd 0 [] (rg wd) := ⟨rfl, by rw [rg_length]; rfl, rg_nodup wd, fun x hx => mem_rg.mp hx, fun k hk => absurd hk List.not_mem_nil⟩
section
variable {TB : Tbs} {P : Program} {w : World} {K : PySem.W.Frag} {mg : Str → Option Value} {base : Heap} {Za : Ads}
theorem F__law_keys (Z : Fx TB w K mg base Za) : FnK TB P w K mg base "_law_keys" ["_law_deck", "_law_width"] 2 5 (fun ds => ∃ (wd : Nat), ds = [.int wd] ∧ (1 ≤ wd ∧ wd ≤ 2)) (fun ds r => ∃ (wd : Nat) (ks : List Key), ds = [.int wd] ∧ r = eKs ks ∧ (Srt wd ks)) :=
  FnK.mk' (N := ["_law_deck", "_law_width", "_law_left", "_law_found", "_law_turn"]) Z._law_keys ⟨rfl, rfl, rfl, by decide +kernel, rfl, by decide +kernel, by decide +kernel⟩ (by
    rintro ds ⟨wd, rfl, h⟩
    rfl) fun f cdv A outer s0 H0 E hr pk ds k0 n0 hpre hk hn => by
    obtain ⟨wd, rfl, h⟩ := hpre
    have nd : (["_law_deck", "_law_width", "_law_left", "_law_found", "_law_turn"] : List Str).Nodup := by decide +kernel
    obtain ⟨hw1, hw2⟩ := h
    have e64 : (2 : Int) ^ 64 = 18446744073709551616 := by decide
    refine sd_ownRg 2 Z.bl.list Z.bl.range (pd_var 1) (by omega) ?_ nd
    refine sd_own 3 ?_ nd
    refine sd_forK (i := 0) (R := drR (n0 + 1) (wd + 1)) (fun n j l => n ≤ wd ∧ ∃ (k : List Int) (ks : List Key) (ls : List Int), l = [.o (.q pk k), .d (.int wd), .o (.l (ls.map D.int)), .o (.l (ks.map eK)), .no] ∧ DkOk (n0 + 1 + 2 * j) k ∧ KeyInv wd j ks ls) Z.bl.range rfl (pk_deck (i := 0) (F__law_draw Z) (hr.mono (by decide)) rfl (pds_cons (pd_add (pd_var 1) pd_int) pds_nil) ⟨_, rfl, (by omega)⟩ (hk) ((by omega)) (fun d k h1 h2 => dr_of h1 h2)) (fun d k' h => ?_) (fun n j l hj hI => ?_) (fun n l hI => ?_)
    · obtain ⟨x, rfl, hx, hk'⟩ := h
      exact ⟨x.toNat, by rw [Int.toNat_of_nonneg hx.1], by omega, by omega, k', [], rg wd, by rw [← rgD_eq]; rfl, hk', KeyInv.start wd⟩
    · obtain ⟨hnw, k, ks, ls, rfl, hk, hv⟩ := hI
      have hleft := hv.left
      have hlen := hv.len
      refine ⟨_, _, (pgd_name 4 nd), ?_⟩
      refine sd_appPop (i := 0) 3 2 (R1 := drR (n0 + 1 + 2 * j + 1) ls.length) rfl rfl rfl (by decide) (by decide) (by decide) (pk_deck (i := 0) (F__law_draw Z) (hr.mono (by decide)) rfl (pds_cons (pd_peek 2 rfl ((pd_len Z.bl.len (pd_var 2) (.inl rfl)).cast (by rw [List.length_map])) rfl) pds_nil) ⟨_, rfl, (by omega)⟩ (hk) ((by omega)) (fun d k h1 h2 => dr_of h1 h2)) (fun d k1 h1 => ?_) (by rw [List.length_map]; omega) (by rw [List.length_map]; omega)
      obtain ⟨x, rfl, hx, hk1⟩ := h1
      have hlt : x.toNat < ls.length := by omega
      refine ⟨x.toNat, .int ls[x.toNat], by rw [Int.toNat_of_nonneg hx.1], by omega, by rw [List.getElem?_map, List.getElem?_eq_getElem hlt]; rfl, pk_ix (i := 0) (R := drR (n0 + 1 + 2 * j + 1 + 1) 2) (ds := [.int 1, .int (-1)]) rfl (pd_lst (pds_cons (pd_int) (pds_cons (pd_neg pd_int) pds_nil))) (pk_deck (i := 0) (F__law_draw Z) (hr.mono (by decide)) rfl (pds_cons (pd_int) pds_nil) ⟨_, rfl, (by omega)⟩ (hk1) ((by omega)) (fun d k h1 h2 => dr_of h1 h2)) (.inl rfl) (fun d k2 h => ?_)⟩
      obtain ⟨z, rfl, hz, hk2⟩ := h
      have fin : ∀ g : Int, (g = 1 ∨ g = -1) → ∃ m', Weak [.o (.q pk k2), .d (.int wd), .o (.l ((ls.map D.int).eraseIdx x.toNat)), .o (.l (ks.map eK ++ [.tup [.int ls[x.toNat], .int g]])), .d (.int j)] m' ∧ n ≤ wd ∧ ∃ (k : List Int) (ks : List Key) (ls : List Int), m' = [.o (.q pk k), .d (.int wd), .o (.l (ls.map D.int)), .o (.l (ks.map eK)), .no] ∧ DkOk (n0 + 1 + 2 * (j + 1)) k ∧ KeyInv wd (j + 1) ks ls := fun g hg =>
        ⟨_, by rw [eraseIdx_map', show ks.map eK ++ [.tup [.int ls[x.toNat], .int g]] = (ks ++ [(ls[x.toNat], g)]).map eK by rw [List.map_append]; rfl]; exact (by repeat (first | exact Weak.nil | (refine Weak.cons (by first | exact WkS.refl | exact WkS.drop | exact WkS.fz | exact WkS.of_eq (by simp )) ?_))), hnw, k2, ks ++ [(ls[x.toNat], g)], ls.eraseIdx x.toNat, rfl, hk2, hv.step hlt hg⟩
      rcases (show z = 0 ∨ z = 1 by omega) with rfl | rfl
      · exact ⟨0, .int 1, rfl, rfl, sd_nil (fin 1 (.inl rfl))⟩
      · exact ⟨1, .int (-1), rfl, rfl, sd_nil (fin (-1) (.inr rfl))⟩
    · obtain ⟨hnw, k, ks, ls, rfl, hk, hv⟩ := hI
      refine sd_weak (Weak.fzAt 3 rfl) ?_
      exact sd_ret (pd_var 3) ⟨_, rfl, ⟨wd, ks, rfl, rfl, hv.srt hw2⟩, hk.mono (by omega)⟩
end
end Lw
set_option Elab.async false
set_option linter.all false
set_option maxRecDepth 100000
set_option maxHeartbeats 4000000
/-! # the law's ways and stops -/
namespace Lw
open PySem PySem.Spec PyProof.Rows L2
abbrev eLW (q : LW) : D := .tup [.int q.1, eIs q.2.1, .int q.2.2.1, eKs q.2.2.2]
def waysOf (rows : List (List Int)) (s : List Key) (m : List Int) (gs : List (List Key)) : List LW := gs.filterMap fun g => (wayBetween s g).map fun w => ((w.length : Int), w, costIn (orderIn rows g) m, g)
theorem waysOf_all (wd : Nat) (rows : List (List Int)) (s : List Key) (m : List Int) : waysOf rows s m (sorts wd) = lawWays wd rows s m := rfl
theorem ways_few {wd : Nat} {rows : List (List Int)} {s : List Key} {m : List Int} (h : wd ≤ 2) : (lawWays wd rows s m).length ≤ 60 := Nat.le_trans (List.length_filterMap_le _ _) (sorts_few h)
theorem ways_in {wd : Nat} {rows : List (List Int)} {s : List Key} {m : List Int} : ∀ q ∈ lawWays wd rows s m, q.2.2.2 ∈ sorts wd := fun q hq => by
  unfold lawWays at hq
  simp only [List.mem_filterMap, Option.map_eq_some_iff] at hq
  obtain ⟨g, hg, w, _, rfl⟩ := hq
  exact hg
section
variable {TB : Tbs} {P : Program} {w : World} {K : PySem.W.Frag} {mg : Str → Option Value} {base : Heap} {Za : Ads}
theorem F__law_ways (Z : Fx TB w K mg base Za) : FnR TB P w K mg base "_law_ways" ["_law_table", "_law_keys_here", "_law_marks"] 6 (fun ds res => ∃ (wd : Nat) (rows : List (List Int)) (s : List Key) (m : List Int), ds = [eTable Za wd rows, eKs s, eIs m] ∧ ((Tb wd rows ∧ Srt wd s) ∧ (m.Pairwise (· < ·) ∧ m.length ≤ 100) ∧ ∀ x ∈ m, 0 ≤ x ∧ x < rows.length) ∧ res = .lst ((lawWays wd rows s m).map eLW)) :=
  FnR.mk' (N := ["_law_table", "_law_keys_here", "_law_marks", "_law_found", "_law_later", "_law_way"]) Z._law_ways ⟨rfl, rfl, rfl, by decide +kernel, rfl, by decide +kernel, by decide +kernel⟩ (by
    rintro ds res ⟨wd, rows, s, m, rfl, h, rfl⟩
    rfl) fun f cdv A outer s0 H0 E hr => by
    rintro ds res ⟨wd, rows, s, m, rfl, h, rfl⟩
    have nd : (["_law_table", "_law_keys_here", "_law_marks", "_law_found", "_law_later", "_law_way"] : List Str).Nodup := by decide +kernel
    obtain ⟨⟨ht, hs⟩, hm, hin⟩ := h
    have hf := ht.few
    have hp := ht.pos
    have hwd := ht.wide
    refine sd_own 3 ?_ nd
    refine sd_forS (sorts wd) eKs (fun pre => [.d (eTable Za wd rows), .d (eKs s), .d (eIs m), .o (.l ((waysOf rows s m pre).map eLW)), .no, .no]) (pid_list (pd_call (F_sortings Z) (hr.mono (by decide)) (pds_cons ((pd_prop (F_Table_width Z) (hr.mono (by decide)) ((pd_var 0)) ⟨_, _, rfl, True.intro, rfl⟩)) pds_nil) ⟨wd, rfl, ⟨by omega, by omega⟩, rfl⟩)) rfl (fun pre a post e => ⟨_, _, (pgd_name 4 nd), ?_⟩) ?_
    · have ha : a ∈ sorts wd := by rw [e]; simp
      have hsa := sorts_srt hp hwd a ha
      have hl : (waysOf rows s m pre).length ≤ 60 := by
        refine Nat.le_trans (List.length_filterMap_le _ _) ?_
        have q := congrArg List.length e
        rw [List.length_append, List.length_cons] at q
        have := sorts_few hwd
        omega
      have hsn : waysOf rows s m (pre ++ [a]) = waysOf rows s m pre ++ waysOf rows s m [a] := List.filterMap_append
      refine sd_set 5 ((pd_call (F_first_way Z) (hr.mono (by decide)) (pds_cons ((pd_prop (F_Table_width Z) (hr.mono (by decide)) ((pd_var 0)) ⟨_, _, rfl, True.intro, rfl⟩)) (pds_cons ((pd_var 1)) (pds_cons ((pd_var 4)) pds_nil))) ⟨wd, s, a, rfl, ⟨by omega, hs, hsa⟩, rfl⟩)) ?_ nd
      cases hw : wayBetween s a with
      | none =>
        have e1 : waysOf rows s m [a] = [] := by simp [waysOf, hw]
        refine sd_when (pt_c (pcd_notN (pd_var 5))) (fun z => by cases z) fun _ => sd_nil ?_
        show Weak _ _
        rw [hsn, e1]
        exact (by repeat (first | exact Weak.nil | (refine Weak.cons (by first | exact WkS.refl | exact WkS.drop | exact WkS.fz | exact WkS.of_eq (by simp )) ?_)))
      | some hh =>
        have e1 : waysOf rows s m [a] = [((hh.length : Int), hh, costIn (orderIn rows a) m, a)] := by simp [waysOf, hw]
        refine sd_when (pt_c (pcd_notN (pd_var 5))) (fun z => ?_) fun z => by cases z
        have hlen : ∀ {X : Cx} {env : List Sl} {ee : Expr}, PD TB X ee env (eWay (some hh)) → PD TB X ee env (.lst (hh.map D.int)) := fun q => q
        refine sd_app 3 rfl (d := eLW ((hh.length : Int), hh, costIn (orderIn rows a) m, a)) (pd_tup (pds_cons ((pd_len Z.bl.len (hlen (pd_var 5)) (.inl rfl)).cast (by rw [List.length_map])) (pds_cons ((pd_var 5)) (pds_cons ((pd_call (F_cost Z) (hr.mono (by decide)) (pds_cons ((pd_call (F_order_of Z) (hr.mono (by decide)) (pds_cons ((pd_var 0)) (pds_cons ((pd_var 4)) pds_nil)) ⟨wd, rows, a, rfl, ⟨ht, hsa⟩, rfl⟩)) (pds_cons ((pd_var 2)) pds_nil)) ⟨_, _, rfl, ⟨⟨order_nodup _ _, by rw [orderIn_length]; omega⟩, hm, fun x hx => mem_order ht a (hin x hx)⟩, rfl⟩)) (pds_cons ((pd_var 4)) pds_nil))))) (by rw [List.length_map]; omega) (sd_nil (sd_nil ?_))
        show Weak _ _
        rw [hsn, e1]
        exact (by repeat (first | exact Weak.nil | (refine Weak.cons (by first | exact WkS.refl | exact WkS.drop | exact WkS.fz | exact WkS.of_eq (by simp )) ?_)))
    · refine sd_weak (Weak.fzAt 3 rfl) ?_
      exact sd_ret (pd_var 3) rfl
theorem F__law_stop (Z : Fx TB w K mg base Za) : FnR TB P w K mg base "_law_stop" ["_law_table", "_law_ways_here", "_law_goal"] 6 (fun ds res => ∃ (wd : Nat) (rows : List (List Int)) (ways : List LW) (g : List Key), ds = [eTable Za wd rows, .lst (ways.map eLW), eKs g] ∧ ((Tb wd rows ∧ Srt wd g) ∧ ways.length ≤ 60 ∧ ∀ q ∈ ways, Srt wd q.2.2.2) ∧ res = eO eStop (lawStop ways g)) :=
  FnR.mk' (N := ["_law_table", "_law_ways_here", "_law_goal", "_law_found", "_law_length", "_law_way", "_law_price", "_law_later", "_law_back", "_law_number"]) Z._law_stop ⟨rfl, rfl, rfl, by decide +kernel, rfl, by decide +kernel, by decide +kernel⟩ (by
    rintro ds res ⟨wd, rows, ways, g, rfl, h, rfl⟩
    rfl) fun f cdv A outer s0 H0 E hr => by
    rintro ds res ⟨wd, rows, ways, g, rfl, h, rfl⟩
    have nd : (["_law_table", "_law_ways_here", "_law_goal", "_law_found", "_law_length", "_law_way", "_law_price", "_law_later", "_law_back", "_law_number"] : List Str).Nodup := by decide +kernel
    obtain ⟨⟨ht, hg⟩, hwl, hws⟩ := h
    have hp := ht.pos
    have hul := hr.units
    refine sd_own 3 ?_ nd
    refine sd_forS ways eLW (fun pre => [.d (eTable Za wd rows), .d (.lst (ways.map eLW)), .d (eKs g), .o (.l ((lawStops pre g).map eS4)), .no, .no, .no, .no, .no, .no]) (pid_list (pd_var 1)) rfl (fun pre a post e => ⟨_, _, (pgd_tup (pgsd_cons (pgd_name 4 nd) (pgsd_cons (pgd_name 5 nd) (pgsd_cons (pgd_name 6 nd) (pgsd_cons (pgd_name 7 nd) pgsd_nil))))), ?_⟩) ?_
    · have ha : a ∈ ways := by rw [e]; simp
      have hsa := hws a ha
      have hl : (lawStops pre g).length ≤ 60 := by
        refine Nat.le_trans (List.length_filterMap_le _ _) ?_
        have q := congrArg List.length e
        rw [List.length_append, List.length_cons] at q
        omega
      have hsn : lawStops (pre ++ [a]) g = lawStops pre g ++ lawStops [a] g := List.filterMap_append
      refine sd_set 8 ((pd_call (F_first_way Z) (hr.mono (by decide)) (pds_cons ((pd_prop (F_Table_width Z) (hr.mono (by decide)) ((pd_var 0)) ⟨_, _, rfl, True.intro, rfl⟩)) (pds_cons ((pd_var 7)) (pds_cons ((pd_var 2)) pds_nil))) ⟨wd, _, g, rfl, ⟨by omega, hsa, hg⟩, rfl⟩)) ?_ nd
      cases hw : wayBetween a.2.2.2 g with
      | none =>
        have e1 : lawStops [a] g = [] := by simp [lawStops, hw]
        refine sd_when (pt_c (pcd_notN (pd_var 8))) (fun z => by cases z) fun _ => sd_nil ?_
        show Weak _ _
        rw [hsn, e1]
        exact (by repeat (first | exact Weak.nil | (refine Weak.cons (by first | exact WkS.refl | exact WkS.drop | exact WkS.fz | exact WkS.of_eq (by simp )) ?_)))
      | some hh =>
        have e1 : lawStops [a] g = [(a.1 + a.2.2.1 + (hh.length : Int), a.1, a.2.1, hh)] := by simp [lawStops, hw]
        refine sd_when (pt_c (pcd_notN (pd_var 8))) (fun z => ?_) fun z => by cases z
        have hlen : ∀ {X : Cx} {env : List Sl} {ee : Expr}, PD TB X ee env (eWay (some hh)) → PD TB X ee env (.lst (hh.map D.int)) := fun q => q
        refine sd_app 3 rfl (d := eS4 (a.1 + a.2.2.1 + (hh.length : Int), a.1, a.2.1, hh)) (pd_tup (pds_cons (pd_add (pd_add (pd_var 4) (pd_var 6)) ((pd_len Z.bl.len (hlen (pd_var 8)) (.inl rfl)).cast (by rw [List.length_map]))) (pds_cons ((pd_var 4)) (pds_cons ((pd_var 5)) (pds_cons ((pd_var 8)) pds_nil))))) (by rw [List.length_map]; omega) (sd_nil (sd_nil ?_))
        show Weak _ _
        rw [hsn, e1]
        exact (by repeat (first | exact Weak.nil | (refine Weak.cons (by first | exact WkS.refl | exact WkS.drop | exact WkS.fz | exact WkS.of_eq (by simp )) ?_)))
    · refine sd_weak (Weak.fzAt 3 rfl) ?_
      obtain ⟨F, hF⟩ : ∃ F, F = lawStops ways g := ⟨_, rfl⟩
      have hS : lawStop ways g = best4 F := by rw [hF]; rfl
      rw [hS]
      rw [← hF]
      refine sd_when (pt_c (pcd_eqNil hul (pd_var 3) fun b _ => pln59_S4 b)) (fun z => ?_) fun z => ?_
      · cases F with
        | nil => exact sd_ret pd_non rfl
        | cons b0 r => cases z
      · cases F with
        | nil => cases z
        | cons b0 r =>
          refine sd_unpack (x := eS4 (bestOf lt4 b0 r)) (pd_min (bs := b0 :: r) eS4 lt4 rfl Z.bl.min (room80 hr) (pd_var 3) (fun b _ => pln_S4 b) (fun b _ b' _ => alike_S4 b b') (fun b _ z => by rw [toPy_S4] at z; cases z) (fun b _ b' _ => dlt_S4 b b')) (pgd_tup (pgsd_cons (pgd_name 9 nd) (pgsd_cons (pgd_name 4 nd) (pgsd_cons (pgd_name 5 nd) (pgsd_cons (pgd_name 8 nd) pgsd_nil))))) ?_
          exact sd_ret (pd_tup (pds_cons ((pd_var 9)) (pds_cons ((pd_var 5)) (pds_cons ((pd_var 8)) pds_nil)))) rfl
end
end Lw
set_option Elab.async false
set_option linter.all false
set_option maxRecDepth 100000
set_option maxHeartbeats 4000000
/-! # the law's stops are right -/
namespace Lw
open PySem PySem.Spec PyProof.Rows L2
theorem pln_stop (o : Option (Int × List Int × List Int)) : pln 60 (eO eStop o) = true := by
  cases o with
  | none => rfl
  | some p =>
    have h1 := pln_mono (n := 59) (by decide) (pn_eIs.pl p.2.1)
    have h2 := pln_mono (n := 59) (by decide) (pn_eIs.pl p.2.2)
    show [D.int p.1, eIs p.2.1, eIs p.2.2].all (pln 59) = true
    simp only [List.all_cons, List.all_nil, h1, h2, Bool.and_true]
    rfl
theorem pln_chp (a : Int) (b : List Int) (c : List Key) : pln 60 (.tup [.int a, eIs b, eKs c]) = true := by
  have h1 := pln_mono (n := 59) (by decide) (pn_eIs.pl b)
  have h2 := pln_mono (n := 59) (by decide) (pn_eKs.pl c)
  show [D.int a, eIs b, eKs c].all (pln 59) = true
  simp only [List.all_cons, List.all_nil, h1, h2, Bool.and_true]
  rfl
theorem isNon_stop (o : Option (Int × List Int × List Int)) : isNon (eO eStop o) = o.isNone := by cases o <;> rfl
section
variable {TB : Tbs} {P : Program} {w : World} {K : PySem.W.Frag} {mg : Str → Option Value} {base : Heap} {Za : Ads}
theorem F__law_stops_right (Z : Fx TB w K mg base Za) : FnR TB P w K mg base "_law_stops_right" ["_law_table", "_law_keys_here", "_law_ways_here", "_law_goal", "_law_marks"] 7 (fun ds res => ∃ (wd : Nat) (rows : List (List Int)) (s g : List Key) (m : List Int), ds = [eTable Za wd rows, eKs s, .lst ((lawWays wd rows s m).map eLW), eKs g, eIs m] ∧ ((Tb wd rows ∧ s ∈ sorts wd ∧ g ∈ sorts wd) ∧ (m.Pairwise (· < ·) ∧ m.length ≤ 100) ∧ ∀ x ∈ m, 0 ≤ x ∧ x < rows.length) ∧ res = .bl true) :=
  FnR.mk' (N := ["_law_table", "_law_keys_here", "_law_ways_here", "_law_goal", "_law_marks", "_law_due", "_law_number", "_law_length", "_law_way", "_law_price", "_law_later"]) Z._law_stops_right ⟨rfl, rfl, rfl, by decide +kernel, rfl, by decide +kernel, by decide +kernel⟩ (by
    rintro ds res ⟨wd, rows, s, g, m, rfl, h, rfl⟩
    rfl) fun f cdv A outer s0 H0 E hr => by
    rintro ds res ⟨wd, rows, s, g, m, rfl, h, rfl⟩
    have nd : (["_law_table", "_law_keys_here", "_law_ways_here", "_law_goal", "_law_marks", "_law_due", "_law_number", "_law_length", "_law_way", "_law_price", "_law_later"] : List Str).Nodup := by decide +kernel
    obtain ⟨⟨ht, hs, hg⟩, hm, hin⟩ := h
    have hf := ht.few
    have hp := ht.pos
    have hwd := ht.wide
    have hul := hr.units
    have hss := sorts_srt hp hwd s hs
    have hsg := sorts_srt hp hwd g hg
    have hm2 : m.Pairwise (· < ·) ∧ m.length ≤ 1000 := ⟨hm.1, by have := hm.2; omega⟩
    refine sd_set 5 ((pd_call (F__law_stop Z) (hr.mono (by decide)) (pds_cons ((pd_var 0)) (pds_cons ((pd_var 2)) (pds_cons ((pd_var 3)) pds_nil))) ⟨wd, rows, _, g, rfl, ⟨⟨ht, hsg⟩, ways_few hwd, fun q hq => sorts_srt hp hwd _ (ways_in q hq)⟩, rfl⟩)) ?_ nd
    have e0 : best4 (stopsFound s g (costsBy wd rows m)) = lawStop (lawWays wd rows s m) g := by rw [← stops_eq]; rfl
    refine sd_check ((pt_c (pcd_ne (t := true) hul (pd_call (F_one_stop Z) (hr.mono (by decide)) (pds_cons ((pd_var 0)) (pds_cons ((pd_var 1)) (pds_cons ((pd_var 3)) (pds_cons ((pd_var 4)) pds_nil)))) ⟨wd, rows, s, g, m, rfl, ⟨⟨ht, hss, hsg⟩, hm2, hin⟩, rfl⟩) (pd_var 5) (pln_stop _) (pln_stop _) (by rw [e0]; simp))).cast rfl) ?_
    obtain ⟨F, hF⟩ : ∃ F, F = lawStop (lawWays wd rows s m) g := ⟨_, rfl⟩
    rw [← hF]
    refine sd_check (PTd.cast (pw_t (pwd_and (p := !F.isNone) (q := false) ((pt_c (pcd_notN (pd_var 5))).cast (by rw [isNon_stop])) fun z => ?_)) (by simp)) ?_
    · cases F with
      | none => cases z
      | some x =>
        obtain ⟨d, hd, hle⟩ := stop_dist ht hs hg hF.symm
        refine pwd_and1 ((pt_c (pcd_lt (i := x.1) (j := (d.length : Nat)) (pd_ix (ds := [.int x.1, eIs x.2.1, eIs x.2.2]) (pd_var 5) pd_int (.inr rfl) (atI0 _ _)) (PD.cast (pd_call (F_distance Z) (hr.mono (by decide)) (pds_cons ((pd_prop (F_Table_width Z) (hr.mono (by decide)) ((pd_var 0)) ⟨_, _, rfl, True.intro, rfl⟩)) (pds_cons ((pd_var 1)) (pds_cons ((pd_var 3)) pds_nil))) ⟨wd, s, g, rfl, ⟨by omega, hss, hsg⟩, rfl⟩) (by rw [hd]; rfl)))).cast ?_)
        exact decide_eq_false (by omega)
    · obtain ⟨b0, r, hb⟩ := heads_cons ht hs m
      obtain ⟨c1, c2, c3, c4⟩ := cheapest_eq ht hs hb
      obtain ⟨B, hB⟩ : ∃ B, B = bestOf lt4k b0 r := ⟨_, rfl⟩
      rw [← hB] at c2 c3 c4
      have hBm : B ∈ headsFound s (costsBy wd rows m) := by rw [hb, hB]; exact bestOf_mem _ _ _
      have hBl : B.2.2.1.length ≤ 40 := by
        unfold headsFound costsBy at hBm
        simp only [List.mem_filterMap, List.mem_map, Option.map_eq_some_iff] at hBm
        obtain ⟨p, ⟨g', hg', rfl⟩, a, e, k⟩ := hBm
        rw [← k]
        have := (way_ok hp hwd hs hg' e).2.2
        show a.length ≤ 40
        omega
      refine sd_unpack (x := eS3 (pr3 B)) (PD.cast (pd_min (bs := ways3 (lawWays wd rows s m)) eS3 lt3 c1 Z.bl.min (room80 hr) (PD.cast (pd_lcA [("_law_length", 7), ("_law_way", 8), ("_law_price", 9), ("_law_later", 10)] (lawWays wd rows s m) (eLW) ((fun q => eS3 (q.1 + q.2.2.1, q.1, q.2.1))) (pid_list (pd_var 2)) (Nat.le_trans (ways_few hwd) (by decide)) (fun q hq => ⟨_, _, by decide, (fun _ _ _ _ _ => (pgd_tup (pgsd_cons (pgd_name 7 nd) (pgsd_cons (pgd_name 8 nd) (pgsd_cons (pgd_name 9 nd) (pgsd_cons (pgd_name 10 nd) pgsd_nil)))))), fun _ _ _ _ _ => ptsd_nil, fun _ _ _ _ _ _ => (pd_tup (pds_cons (pd_add (pd_var 7) (pd_var 9)) (pds_cons ((pd_var 7)) (pds_cons ((pd_var 8)) pds_nil))))⟩) nd (blkOk_by (show blkC ["_law_table", "_law_keys_here", "_law_ways_here", "_law_goal", "_law_marks", "_law_due", "_law_number", "_law_length", "_law_way", "_law_price", "_law_later"] (defScope (topS 146)) _ [("_law_length", 7), ("_law_way", 8), ("_law_price", 9), ("_law_later", 10)] = true from by decide +kernel))) (by unfold ways3; rw [List.map_map]; rfl)) (fun b _ => pln_S3 b) (fun b _ b' _ => alike_S3 b b') (fun b _ z => by rw [toPy_S3] at z; cases z) (fun b _ b' _ => dlt_S3 b b')) (by rw [c2])) (pgd_tup (pgsd_cons (pgd_name 6 nd) (pgsd_cons (pgd_name 7 nd) (pgsd_cons (pgd_name 8 nd) pgsd_nil)))) ?_
      exact sd_ret ((pd_c (pcd_eq (t := true) hul (pd_call (F_cheapest_sorting Z) (hr.mono (by decide)) (pds_cons ((pd_var 0)) (pds_cons ((pd_var 1)) (pds_cons ((pd_var 4)) pds_nil))) ⟨wd, rows, s, m, b0, r, rfl, ⟨⟨⟨ht, hss⟩, hm2, hin⟩, hb⟩, rfl⟩) (pd_tup (pds_cons ((pd_var 6)) (pds_cons ((pd_var 8)) (pds_cons ((pd_call (F_clicked Z) (hr.mono (by decide)) (pds_cons ((pd_prop (F_Table_width Z) (hr.mono (by decide)) ((pd_var 0)) ⟨_, _, rfl, True.intro, rfl⟩)) (pds_cons ((pd_var 1)) (pds_cons ((pd_var 8)) pds_nil))) ⟨wd, s, B.2.2.1, rfl, ⟨⟨by omega, hss⟩, hBl, c4⟩, rfl⟩)) pds_nil)))) (pln_chp _ _ _) (pln_chp _ _ _) (by rw [← hB, c3]; simp [pr3])))) rfl
end
end Lw
set_option Elab.async false
set_option linter.all false
set_option maxRecDepth 100000
set_option maxHeartbeats 4000000
/-! # a plan is right -/
namespace Lw
open PySem PySem.Spec PyProof.Rows L2
/-- a word's first sign -/
def chS (x : Str) : Nat := x.cps.toList.headD 0
def ch (d : Deed) : Nat := chS d.1
theorem at_chS {x : Str} (h : x = "sort" ∨ x = "click" ∨ x = "range") : atI x.cps.toList 0 = some (chS x) ∧ x.length ≤ 100 := by
  unfold chS
  rcases h with rfl | rfl | rfl <;> decide +kernel
theorem at_ch {d : Deed} (h : d.1 = "sort" ∨ d.1 = "click" ∨ d.1 = "range") : atI d.1.cps.toList 0 = some (ch d) ∧ d.1.length ≤ 100 := at_chS h
theorem ch_sort : chS "sort" = 115 := by decide +kernel
theorem ch_click : chS "click" = 99 := by decide +kernel
theorem ch_range : chS "range" = 114 := by decide +kernel
theorem ch_heads : ∀ (cs : List Int), (headsOf cs).map ch = List.replicate cs.length 115
  | [] => rfl
  | c :: cs => by
    show chS "sort" :: (headsOf cs).map ch = List.replicate (cs.length + 1) 115
    rw [ch_sort, ch_heads cs, List.replicate_succ]
theorem ch_word {d : Deed} (h : d.1 = "click" ∨ d.1 = "range") : ch d = 99 ∨ ch d = 114 := by
  unfold ch
  rcases h with h | h
  · rw [h]
    exact .inl ch_click
  · rw [h]
    exact .inr ch_range
theorem sum_ones : ∀ l : List Deed, ((l.map fun d => sOf [ch d]).map (·.length)).sum = l.length
  | [] => rfl
  | d :: l => by
    rw [List.map_cons, List.map_cons, List.sum_cons, sum_ones l, List.length_cons, sOf_len]
    simp
    omega
theorem flat_ones (l : List Deed) : (l.map fun d => [ch d]).flatten = l.map ch := by
  induction l with
  | nil => rfl
  | cons d l ih => rw [List.map_cons, List.flatten_cons, ih]; rfl
section
variable {TB : Tbs} {P : Program} {w : World} {K : PySem.W.Frag} {mg : Str → Option Value} {base : Heap} {Za : Ads}
theorem F__law_plan_right (Z : Fx TB w K mg base Za) : FnR TB P w K mg base "_law_plan_right" ["_law_house", "_law_script", "_law_order", "_law_marks", "_law_due"] 15 (fun ds res => ∃ (wd : Nat) (rows : List (List Int)) (hs : List Int) (o : Option (List Int)) (m : List Int) (due : Option Int), ds = [eHouse Za wd rows, eCs (headsOf hs), eWay o, eIs m, eO D.int due] ∧ (((Tb wd rows ∧ hs.length ≤ 3 ∧ ∀ c ∈ hs, 0 ≤ c ∧ c < wd) ∧ GoalOk rows o m) ∧ ((bestPlan wd rows (afterClicks [] hs) o m).map fun f => (f.length : Int)) = due) ∧ res = .bl true) :=
  FnR.mk' (N := ["_law_house", "_law_script", "_law_order", "_law_marks", "_law_due", "_law_told", "_law_words", "_law_deed", "_law_front"]) Z._law_plan_right ⟨rfl, rfl, rfl, by decide +kernel, rfl, by decide +kernel, by decide +kernel⟩ (by
    rintro ds res ⟨wd, rows, hs, o, m, due, rfl, h, rfl⟩
    rfl) fun f cdv A outer s0 H0 E hr => by
    rintro ds res ⟨wd, rows, hs, o, m, due, rfl, h, rfl⟩
    have nd : (["_law_house", "_law_script", "_law_order", "_law_marks", "_law_due", "_law_told", "_law_words", "_law_deed", "_law_front"] : List Str).Nodup := by decide +kernel
    obtain ⟨⟨⟨ht, hl, hh⟩, hgo⟩, hdue⟩ := h
    have hul := hr.units
    have hp := ht.pos
    have hwd := ht.wide
    obtain ⟨a1, a2, a3⟩ := heads0 ht hh
    have hsl : (headsOf hs).length = hs.length := List.length_map _
    have hsrt := sorts_srt hp hwd _ a3
    refine sd_set 5 ((pd_call (F_plan Z) (hr.mono (by decide)) (pds_cons ((pd_var 0)) (pds_cons (pd_int) (pds_cons (pd_int) (pds_cons ((pd_var 1)) (pds_cons ((pd_var 2)) (pds_cons ((pd_var 3)) pds_nil)))))) ⟨wd, rows, headsOf hs, afterClicks [] hs, o, m, rfl, ⟨⟨⟨ht, by omega⟩, a1⟩, ⟨a2, hsrt⟩, hgo, fun stop hst => ⟨even_ok ht stop m, fun l hl => Nat.le_trans (plan_small ht a3 hst hl) (by decide)⟩⟩, rfl⟩)) ?_ nd
    obtain ⟨B, hB⟩ : ∃ B, B = bestPlan wd rows (afterClicks [] hs) o m := ⟨_, rfl⟩
    rw [← hB] at hdue ⊢
    cases B with
    | none =>
      subst hdue
      refine sd_when (t := true) ((pt_c (pcd_isN (pd_var 4))).cast rfl) (fun _ => ?_) fun z => by cases z
      exact sd_ret (d := .bl true) ((pd_c (pcd_isN (pd_var 5))).cast rfl) rfl
    | some f =>
      subst hdue
      obtain ⟨sok, ⟨s', an, run, hs', ord⟩, ⟨wa, ks, wb, hf, hks⟩, few⟩ := plan_does ht hh hgo.up hgo.inr hB.symm
      refine sd_when (t := false) ((pt_c (pcd_isN (pd_var 4))).cast rfl) (fun z => by cases z) fun _ => ?_
      have told : ∀ {X : Cx} {env : List Sl} {ee : Expr}, PD TB X ee env (ePlan (some f)) → PD TB X ee env (eCs f) := fun q => q
      have duei : ∀ {X : Cx} {env : List Sl} {ee : Expr}, PD TB X ee env (eO D.int ((some f).map fun f => (f.length : Int))) → PD TB X ee env (.int ((f.length : Nat) : Int)) := fun q => q
      refine sd_check (PTd.cast (pw_t (pwd_or (p := false) ((pt_c (pcd_isN (pd_var 5))).cast rfl) fun _ => pwd_or (p := false) ((pt_c (pcd_neI (pd_len Z.bl.len (ds := f.map eC) (told (pd_var 5)) (.inl rfl)) (duei (pd_var 4)))).cast (by simp)) fun _ => pwd_or1 (t := false) ((pt_c (pcd_neI (pd_call (F_judge_plan Z) (hr.mono (by decide)) (pds_cons ((pd_var 0)) (pds_cons (pd_int) (pds_cons (pd_int) (pds_cons ((pd_var 1)) (pds_cons ((pd_var 2)) (pds_cons ((pd_var 3)) (pds_cons (told (pd_var 5)) pds_nil))))))) ⟨wd, rows, headsOf hs, f, o, m, an, s', rfl, ⟨⟨⟨⟨ht, by omega⟩, a1⟩, ⟨by omega, sok⟩⟩, hgo, ⟨run, sorts_srt hp hwd s' hs'⟩, ord⟩, rfl⟩) (duei (pd_var 4)))).cast (by simp)))) rfl) ?_
      have hall : ∀ d ∈ f, d.1 = "sort" ∨ d.1 = "click" ∨ d.1 = "range" := fun d hd => by
        rw [hf] at hd
        rcases List.mem_append.mp hd with hd | hd
        · rcases List.mem_append.mp hd with hd | hd
          · obtain ⟨c, _, rfl⟩ := List.mem_map.mp hd
            exact .inl rfl
          · exact .inr (hks d hd)
        · obtain ⟨c, _, rfl⟩ := List.mem_map.mp hd
          exact .inl rfl
      have hch : f.map ch = List.replicate wa.length 115 ++ ks.map ch ++ List.replicate wb.length 115 := by
        rw [hf, List.map_append, List.map_append, ch_heads, ch_heads]
      have hkc : ∀ k ∈ ks.map ch, k = 99 ∨ k = 114 := fun k hk => by
        obtain ⟨d, hd, rfl⟩ := List.mem_map.mp hk
        exact ch_word (hks d hd)
      have hkl : (ks.map ch).length ≤ 30 := by
        rw [List.length_map]
        have := congrArg List.length hf
        rw [List.length_append, List.length_append] at this
        omega
      refine sd_set 6 (d := .str (sOf (f.map ch))) (PD.cast (pd_join (ys := f.map fun d => sOf [ch d]) pd_str (PD.cast (pd_lcA [("_law_deed", 7)] (f) (eC) ((fun d => .str (sOf [ch d]))) (pid_list (told (pd_var 5))) (Nat.le_trans few (by decide)) (fun d hd => ⟨_, _, by decide, (fun _ _ _ _ _ => (pgd_name 7 nd)), fun _ _ _ _ _ => ptsd_nil, fun _ _ _ _ _ _ => (pd_ixS (pd_ix (pd_var 7) pd_int (.inr rfl) (atI0 _ _)) pd_int (Nat.le_trans (at_ch (hall d hd)).2 (by decide)) (at_ch (hall d hd)).1)⟩) nd (blkOk_by (show blkC ["_law_house", "_law_script", "_law_order", "_law_marks", "_law_due", "_law_told", "_law_words", "_law_deed", "_law_front"] (defScope (topS 147)) _ [("_law_deed", 7)] = true from by decide +kernel))) (by rw [List.map_map]; rfl)) (by rw [sum_ones, List.length_map, w_0, sOf_len]; simp; omega)) ?_) ?_ nd
      · refine congrArg D.str ?_
        rw [w_0, show (f.map fun d => sOf [ch d]) = (f.map fun d => [ch d]).map sOf by rw [List.map_map]; rfl, join_nil, flat_ones]
      rw [hch]
      refine sd_set 8 (d := .str (sOf (ks.map ch ++ if ks.map ch = [] then [] else List.replicate wb.length 115))) (PD.cast (pd_lstrip (pd_var 6) pd_str (by rw [sOf_len, ← hch, List.length_map]; omega)) (by rw [w_s, words_l _ _ _ hkc])) ?_ nd
      have r1 : Txt.rstripChars (sOf (ks.map ch ++ if ks.map ch = [] then [] else List.replicate wb.length 115)) "s" = sOf (ks.map ch) := by rw [w_s, words_r _ _ hkc]
      have l0 : ("" : Str).length = 0 := by rw [w_0, sOf_len]; rfl
      have hfl : (sOf (ks.map ch ++ if ks.map ch = [] then [] else List.replicate wb.length 115)).length ≤ 100000 := by
        have hc2 := congrArg List.length hch
        rw [List.length_map, List.length_append, List.length_append, List.length_replicate, List.length_replicate] at hc2
        rw [sOf_len, List.length_append]
        split
        · rw [List.length_nil]; omega
        · rw [List.length_replicate]; omega
      have rl : (Txt.replace (sOf (ks.map ch)) "c" "").length ≤ 30 := by
        rw [w_c, w_0, replace_one, sOf_len]
        exact Nat.le_trans (List.length_filter_le _ _) hkl
      exact sd_ret (d := .bl true) (PD.cast (pd_c (pcd_eqS (pd_words (pd_var 8) hfl (by rw [r1, l0, sOf_len]; omega) (by rw [r1, l0]; omega)) pd_str)) (by rw [r1, w_c, w_r, w_0, words_2 _ hkc]; simp)) rfl
end
end Lw
set_option Elab.async false
set_option linter.all false
set_option maxRecDepth 100000
set_option maxHeartbeats 4000000
/-! # the law over a deck -/
namespace Lw
open PySem PySem.Spec PyProof.Rows L2
theorem some_firsts : ∀ l : List (Option (Int × List Int × List Int)), (l.filter fun x => x.isSome).map (fun x => D.int ((x.map (·.1)).getD 0)) = (l.filterMap fun x => x.map (·.1)).map D.int
  | [] => rfl
  | none :: l => by
    have := some_firsts l
    simpa using this
  | some x :: l => by
    have := some_firsts l
    simpa using this
theorem int_nat_inj {a b : Nat} (h : ([D.int (a : Int)] : List D) = [D.int (b : Int)]) : a = b := by
  injection h with h
  injection h with h
  omega
theorem rgD_get {n t : Nat} {d : D} (h : (rgD n)[t]? = some d) : d = .int (t : Int) ∧ t < n := by
  have hlt : t < n := by
    have := (List.getElem?_eq_some_iff.mp h).1
    rw [rgD_length] at this
    exact this
  refine ⟨?_, hlt⟩
  unfold rgD at h
  rw [List.getElem?_map, List.getElem?_range hlt] at h
  exact (Option.some.inj h).symm
theorem isNon_int (o : Option Int) : isNon (eO D.int o) = o.isNone := by cases o <;> rfl
theorem isNon_wayO (o : Option (List Int)) : isNon (eWay o) = o.isNone := by cases o <;> rfl
section
variable {TB : Tbs} {P : Program} {w : World} {K : PySem.W.Frag} {mg : Str → Option Value} {base : Heap} {Za : Ads}
theorem F__law_right (Z : Fx TB w K mg base Za) : FnK TB P w K mg base "_law_right" ["_law_deck"] 16 60 (fun ds => ds = [] ∧ (True)) (fun ds r => ds = [] ∧ r = .bl true ∧ (True)) :=
  FnK.mk' (N := ["_law_deck", "_law_width", "_law_rows_here", "_law_table", "_law_house", "_law_heads", "_law_keys_here", "_law_goal", "_law_marks", "_law_row", "_law_ways_here", "_law_order", "_law_stops", "_law_one", "_law_numbers", "_law_due", "_law_script", "_law_column", "_law_least", "_law_length", "_law_way", "_law_price", "_law_later", "_law_near", "_law_bare"]) Z._law_right ⟨rfl, rfl, rfl, by decide +kernel, rfl, by decide +kernel, by decide +kernel⟩ (by
    rintro ds ⟨rfl, h⟩
    rfl) fun f cdv A outer s0 H0 E hr pk ds k0 n0 hpre hk hn => by
    obtain ⟨rfl, h⟩ := hpre
    have nd : (["_law_deck", "_law_width", "_law_rows_here", "_law_table", "_law_house", "_law_heads", "_law_keys_here", "_law_goal", "_law_marks", "_law_row", "_law_ways_here", "_law_order", "_law_stops", "_law_one", "_law_numbers", "_law_due", "_law_script", "_law_column", "_law_least", "_law_length", "_law_way", "_law_price", "_law_later", "_law_near", "_law_bare"] : List Str).Nodup := by decide +kernel
    have hul := hr.units
    refine sd_setK (i := 0) 1 (R := fun d k' => (∃ wd : Nat, d = .int wd ∧ 1 ≤ wd ∧ wd ≤ 2) ∧ DkOk (n0 + 1) k') rfl (pk_opR (i := 0) (R := drR (n0 + 1) 2) (op_c0 op_add) rfl pd_int (pk_deck (i := 0) (F__law_draw Z) (hr.mono (by decide)) rfl (pds_cons (pd_int) pds_nil) ⟨_, rfl, (by omega)⟩ (hk) ((by omega)) (fun d k h1 h2 => dr_of h1 h2)) fun d k1 h1 => ?_) (fun d k1 h1 => ?_) nd
    · obtain ⟨x, rfl, hx, hk1⟩ := h1
      exact ⟨x, rfl, True.intro, ⟨(1 + x).toNat, by rw [Int.toNat_of_nonneg (by omega)], by omega, by omega⟩, hk1⟩
    obtain ⟨⟨wd, rfl, hp, hwd⟩, hk1⟩ := h1
    refine sd_setK (i := 0) 2 (R := fun d k' => (∃ rows : List (List Int), d = eRs rows ∧ rows.length ≤ 5 ∧ ∀ r ∈ rows, r.length = wd) ∧ DkOk (n0 + 24) k') rfl (pk_deck (i := 0) (F__law_rows Z) (hr.mono (by decide)) rfl (pds_cons ((pd_var 1)) (pds_cons (pd_int) pds_nil)) ⟨wd, rfl, hp, hwd⟩ (hk1) ((by omega)) (fun d k' h hk' => ?_)) (fun d k2 h2 => ?_) nd
    · obtain ⟨wd', rows, e, rfl, h3, h4⟩ := h
      have e' : wd = wd' := int_nat_inj (congrArg (List.take 1) e)
      subst e'
      exact ⟨⟨rows, rfl, h3, h4⟩, hk'⟩
    obtain ⟨⟨rows, rfl, hfew, heach⟩, hk2⟩ := h2
    have ht : Tb wd rows := ⟨hp, hwd, hfew, heach⟩
    refine sd_unpack (pd_tup (pds_cons ((pd_make (F_Table_init Z) (hr.mono (by decide)) (pds_cons ((pd_var 1)) (pds_cons ((pd_var 2)) pds_nil)) ⟨wd, rows, rfl, ht, rfl, rfl⟩)) (pds_cons ((pd_make (F_House_init Z) (hr.mono (by decide)) (pds_cons (pd_lst (pds_cons (pd_tup (pds_cons (pd_str) (pds_cons ((pd_make (F_Table_init Z) (hr.mono (by decide)) (pds_cons ((pd_var 1)) (pds_cons ((pd_var 2)) pds_nil)) ⟨wd, rows, rfl, ht, rfl, rfl⟩)) pds_nil))) pds_nil)) pds_nil) ⟨wd, rows, rfl, True.intro, rfl, rfl⟩)) pds_nil))) (pgd_tup (pgsd_cons (pgd_name 3 nd) (pgsd_cons (pgd_name 4 nd) pgsd_nil))) ?_
    refine sd_setK (i := 0) 5 (R := fun d k' => (∃ cs : List Int, d = eIs cs ∧ cs.length ≤ 3 ∧ ∀ c ∈ cs, 0 ≤ c ∧ c < wd) ∧ DkOk (n0 + 31) k') rfl (pk_deck (i := 0) (F__law_clicks Z) (hr.mono (by decide)) rfl (pds_cons ((pd_var 1)) (pds_cons (pd_int) pds_nil)) ⟨wd, rfl, hp, hwd⟩ (hk2) ((by omega)) (fun d k' h hk' => ?_)) (fun d k3 h3 => ?_) nd
    · obtain ⟨wd', cs, e, rfl, h3, h4⟩ := h
      have e' : wd = wd' := int_nat_inj (congrArg (List.take 1) e)
      subst e'
      exact ⟨⟨cs, rfl, h3, h4⟩, hk'⟩
    obtain ⟨⟨hs, rfl, hhl, hh⟩, hk3⟩ := h3
    obtain ⟨_, _, hsin⟩ := heads0 ht hh
    obtain ⟨s, hsd⟩ : ∃ s, s = afterClicks [] hs := ⟨_, rfl⟩
    have srt0 : Srt wd [] := sorts_srt hp hwd [] (nil_in hp hwd)
    refine sd_set 6 (d := eKs s) (PD.cast (pd_call (F_clicked Z) (hr.mono (by decide)) (pds_cons ((pd_var 1)) (pds_cons (pd_lst pds_nil) (pds_cons ((pd_var 5)) pds_nil))) ⟨wd, [], hs, rfl, ⟨⟨hp, srt0⟩, by omega, hh⟩, rfl⟩) (by rw [hsd])) ?_ nd
    rw [← hsd] at hsin
    have hss := sorts_srt hp hwd s hsin
    refine sd_setK (i := 0) 7 (R := fun d k' => (∃ g : List Key, d = eKs g ∧ g ∈ sorts wd) ∧ DkOk (n0 + 44) k') rfl (pk_ixK (i := 0) rfl (Ra := fun d k' => (∃ g1 g2 : List Key, d = .lst [eKs g1, eKs g2] ∧ g1 ∈ sorts wd ∧ g2 ∈ sorts wd) ∧ DkOk (n0 + 43) k') (pk_lst (Rs := fun ds k' => (∃ g1 g2 : List Key, ds = [eKs g1, eKs g2] ∧ g1 ∈ sorts wd ∧ g2 ∈ sorts wd) ∧ DkOk (n0 + 43) k') (pks_cons (i := 0) (R := fun d k' => (∃ g1 : List Key, d = eKs g1 ∧ g1 ∈ sorts wd) ∧ DkOk (n0 + 36) k') rfl (pk_deck (i := 0) (F__law_keys Z) (hr.mono (by decide)) rfl (pds_cons ((pd_var 1)) pds_nil) ⟨wd, rfl, hp, hwd⟩ (hk3) ((by omega)) (fun d k' h hk' => ?_)) fun d4 k4 h4 => pks_cons (i := 0) (R := fun d k' => (∃ g1 : List Key, d = eKs g1 ∧ g1 ∈ sorts wd) ∧ DkOk (n0 + 43) k') rfl (pk_fn (F_clicked Z) (hr.mono (by decide)) (Rs := fun ds k' => (∃ cs : List Int, ds = [.int wd, eKs s, eIs cs] ∧ cs.length ≤ 3 ∧ ∀ c ∈ cs, 0 ≤ c ∧ c < wd) ∧ DkOk (n0 + 43) k') (pks_cons (i := 0) (R := fun d k' => d = .int wd ∧ k' = k4) rfl (pk_pd (i := 0) rfl (pd_var 1) ⟨rfl, rfl⟩) fun d5 k5 h5 => ?_) fun ds k' h => ?_) fun d6 k6 h6 => pks_nil (i := 0) rfl ?_) fun ds k' h => ?_) fun d k5 h5 => ?_) (fun d k7 h7 => ?_) nd
    · obtain ⟨wd', ks, e, rfl, h3⟩ := h
      have e' : wd = wd' := int_nat_inj e
      subst e'
      exact ⟨⟨ks, rfl, srt_in hp hwd h3⟩, hk'⟩
    · obtain ⟨rfl, rfl⟩ := h5
      refine pks_cons (i := 0) (R := fun d k' => d = eKs s ∧ k' = k5) rfl (pk_pd (i := 0) rfl (pd_var 6) ⟨rfl, rfl⟩) fun d6 k6 h6 => ?_
      obtain ⟨rfl, rfl⟩ := h6
      refine pks_cons (i := 0) (R := fun d k' => (∃ cs : List Int, d = eIs cs ∧ cs.length ≤ 3 ∧ ∀ c ∈ cs, 0 ≤ c ∧ c < wd) ∧ DkOk (n0 + 43) k') rfl (pk_deck (i := 0) (F__law_clicks Z) (hr.mono (by decide)) rfl (pds_cons ((pd_var 1)) (pds_cons (pd_int) pds_nil)) ⟨wd, rfl, hp, hwd⟩ (h4.2) ((by omega)) (fun d k' h hk' => ?_)) fun d7 k7 h7 => pks_nil (i := 0) rfl ?_
      · obtain ⟨wd', cs, e, rfl, h3, h4⟩ := h
        have e' : wd = wd' := int_nat_inj (congrArg (List.take 1) e)
        subst e'
        exact ⟨⟨cs, rfl, h3, h4⟩, hk'⟩
      · obtain ⟨⟨cs, rfl, h3, h4⟩, hk'⟩ := h7
        exact ⟨⟨cs, rfl, h3, h4⟩, hk'⟩
    · obtain ⟨⟨cs, rfl, h3, h4⟩, hk'⟩ := h
      exact ⟨_, ⟨wd, s, cs, rfl, ⟨⟨hp, hss⟩, by omega, h4⟩, rfl⟩, ⟨_, rfl, clicks_in hp hwd hsin h4⟩, hk'⟩
    · obtain ⟨⟨g1, rfl, hg1⟩, _⟩ := h4
      obtain ⟨⟨g2, rfl, hg2⟩, hk'⟩ := h6
      exact ⟨⟨g1, g2, rfl, hg1, hg2⟩, hk'⟩
    · obtain ⟨⟨g1, g2, rfl, hg1, hg2⟩, hk'⟩ := h
      exact ⟨by show 2 ≤ 1000; decide, ⟨g1, g2, rfl, hg1, hg2⟩, hk'⟩
    · obtain ⟨⟨g1, g2, rfl, hg1, hg2⟩, hk'⟩ := h5
      refine ⟨_, rfl, ((pk_deck (i := 0) (F__law_draw Z) (hr.mono (by decide)) rfl (pds_cons (pd_int) pds_nil) ⟨_, rfl, (by omega)⟩ (hk') ((by omega)) (fun d k h1 h2 => dr_of h1 h2))).imp fun d k' h => ?_⟩
      obtain ⟨x, rfl, hx, hk2'⟩ := h
      rcases (show x = 0 ∨ x = 1 by omega) with rfl | rfl
      · exact ⟨0, eKs g1, rfl, rfl, ⟨g1, rfl, hg1⟩, hk2'⟩
      · exact ⟨1, eKs g2, rfl, rfl, ⟨g2, rfl, hg2⟩, hk2'⟩
    obtain ⟨⟨g, rfl, hgin⟩, hk7⟩ := h7
    have hsg := sorts_srt hp hwd g hgin
    refine sd_setLcK (i := 0) 8 (own := [("_law_row", 9)]) rfl (pid_range Z.bl.range ((pd_len Z.bl.len (pd_var 2) (.inl rfl)).cast (by rw [List.length_map])) (by omega)) (by rw [rgD_length]; omega) (fun t acc k => (∃ ms : List Int, acc = ms.map D.int ∧ ms.Pairwise (· < ·) ∧ (∀ x ∈ ms, 0 ≤ x ∧ x < (t : Int)) ∧ ms.length ≤ t) ∧ t ≤ rows.length ∧ DkOk (n0 + 44 + t) k) ⟨⟨[], rfl, .nil, fun x h => absurd h List.not_mem_nil, Nat.le_refl _⟩, Nat.zero_le _, hk7⟩ (fun t acc k h => by obtain ⟨⟨ms, rfl, _, _, h1⟩, _⟩ := h; rw [List.length_map]; exact h1) (fun t d acc k' hd hI' => ?_) (fun acc k' hI' => ?_) nd (blkOk_by (show blkC ["_law_deck", "_law_width", "_law_rows_here", "_law_table", "_law_house", "_law_heads", "_law_keys_here", "_law_goal", "_law_marks", "_law_row", "_law_ways_here", "_law_order", "_law_stops", "_law_one", "_law_numbers", "_law_due", "_law_script", "_law_column", "_law_least", "_law_length", "_law_way", "_law_price", "_law_later", "_law_near", "_law_bare"] (defScope (topS 148)) _ [("_law_row", 9)] = true from by decide +kernel))
    · obtain ⟨⟨ms, rfl, hup, hin, hml⟩, htw, hkt⟩ := hI'
      obtain ⟨rfl, htl⟩ := rgD_get hd
      refine ⟨_, _, by decide, rfl, fun _ _ _ _ _ => (pgd_name 9 nd), .inr ⟨_, rfl, fun _ k' => DkOk (n0 + 44 + t + 1) k', fun _ _ _ _ _ => ptk_eqI (i := 0) (RI := drR (n0 + 44 + t + 1) 2) rfl (pk_deck (i := 0) (F__law_draw Z) (hr.mono (by decide)) rfl (pds_cons (pd_int) pds_nil) ⟨_, rfl, (by omega)⟩ (hkt) ((by omega)) (fun d k h1 h2 => dr_of h1 h2)) (fun _ _ _ => pd_int) (fun d k' h => ?_), fun k2 hk2' => ?_, fun k2 hk2' => ⟨.int (t : Int), ?_, fun _ _ _ _ _ => (pd_var 9)⟩⟩⟩
      · obtain ⟨x, rfl, hx, hk'⟩ := h
        exact ⟨x, rfl, hk'⟩
      · exact ⟨⟨ms, rfl, hup, fun x hx => ⟨(hin x hx).1, by have := (hin x hx).2; omega⟩, by omega⟩, htl, hk2'⟩
      · refine ⟨⟨ms ++ [(t : Int)], by rw [List.map_append]; rfl, ?_, fun x hx => ?_, by rw [List.length_append, List.length_singleton]; omega⟩, htl, hk2'⟩
        · rw [List.pairwise_append]
          refine ⟨hup, List.pairwise_singleton _ _, fun a ha b hb => ?_⟩
          rw [List.mem_singleton.mp hb]
          exact (hin a ha).2
        · rcases List.mem_append.mp hx with hx | hx
          · exact ⟨(hin x hx).1, by have := (hin x hx).2; omega⟩
          · rw [List.mem_singleton.mp hx]
            omega
    obtain ⟨⟨m, rfl, hup, hin, hml⟩, _, hk8⟩ := hI'
    rw [rgD_length] at hin hml hk8
    have hm100 : m.Pairwise (· < ·) ∧ m.length ≤ 100 := ⟨hup, by omega⟩
    obtain ⟨W, hW⟩ : ∃ W, W = lawWays wd rows s m := ⟨_, rfl⟩
    refine sd_set 10 (d := .lst (W.map eLW)) (PD.cast (pd_call (F__law_ways Z) (hr.mono (by decide)) (pds_cons ((pd_var 3)) (pds_cons ((pd_var 6)) (pds_cons ((pd_var 8)) pds_nil))) ⟨wd, rows, s, m, rfl, ⟨⟨ht, hss⟩, hm100, hin⟩, rfl⟩) (by rw [hW])) ?_ nd
    refine sd_check ((pt_not' (pt_v (t := true) (pd_call (F__law_stops_right Z) (hr.mono (by decide)) (pds_cons ((pd_var 3)) (pds_cons ((pd_var 6)) (pds_cons ((pd_var 10)) (pds_cons ((pd_var 7)) (pds_cons ((pd_var 8)) pds_nil))))) ⟨wd, rows, s, g, m, by rw [hW], ⟨⟨ht, hsin, hgin⟩, hm100, hin⟩, rfl⟩))).cast rfl) ?_
    obtain ⟨o, ho⟩ : ∃ o, o = orderIn rows g := ⟨_, rfl⟩
    refine sd_set 11 (d := eIs o) (PD.cast (pd_call (F_order_of Z) (hr.mono (by decide)) (pds_cons ((pd_var 3)) (pds_cons ((pd_var 7)) pds_nil)) ⟨wd, rows, g, rfl, ⟨ht, hsg⟩, rfl⟩) (by rw [ho])) ?_ nd
    have hWl : W.length ≤ 60 := by rw [hW]; exact ways_few hwd
    have hWs : ∀ q ∈ W, Srt wd q.2.2.2 := fun q hq => sorts_srt hp hwd _ (ways_in q (by rw [← hW]; exact hq))
    refine sd_as [.o (.q pk k'), .d (.int wd), .d (eRs rows), .d (eTable Za wd rows), .d (eHouse Za wd rows), .d (eIs hs), .d (eKs s), .d (eKs g), .d (eIs m), .no, .d (.lst (W.map eLW)), .d (eIs o), .no, .no, .no, .no, .no, .no, .no, .no, .no, .no, .no, .no, .no] ?_
    refine sd_setLcM 12 [("_law_one", 13)] (sorts wd) (eKs) (fun g' => decide (orderIn rows g' = o)) (fun g' => eO eStop (lawStop W g')) ((pid_list (pd_call (F_sortings Z) (hr.mono (by decide)) (pds_cons ((pd_var 1)) pds_nil) ⟨wd, rfl, ⟨by omega, by omega⟩, rfl⟩))) (Nat.le_trans (sorts_few hwd) (by decide)) (fun q hq => ⟨_, _, by decide, (fun _ _ _ _ _ => (pgd_name 13 nd)), fun _ _ _ _ _ => ptsd_one ((pt_c (pcd_eqE pn_eIs hul (pd_call (F_order_of Z) (hr.mono (by decide)) (pds_cons ((pd_var 3)) (pds_cons ((pd_var 13)) pds_nil)) ⟨wd, rows, q, rfl, ⟨ht, sorts_srt hp hwd q hq⟩, rfl⟩) (pd_var 11)))), fun hb _ _ _ _ _ => ((pd_call (F__law_stop Z) (hr.mono (by decide)) (pds_cons ((pd_var 3)) (pds_cons ((pd_var 10)) (pds_cons ((pd_var 13)) pds_nil))) ⟨wd, rows, W, q, rfl, ⟨⟨ht, sorts_srt hp hwd q hq⟩, hWl, hWs⟩, rfl⟩))⟩) ?_ nd (blkOk_by (show blkC ["_law_deck", "_law_width", "_law_rows_here", "_law_table", "_law_house", "_law_heads", "_law_keys_here", "_law_goal", "_law_marks", "_law_row", "_law_ways_here", "_law_order", "_law_stops", "_law_one", "_law_numbers", "_law_due", "_law_script", "_law_column", "_law_least", "_law_length", "_law_way", "_law_price", "_law_later", "_law_near", "_law_bare"] (defScope (topS 148)) _ [("_law_one", 13)] = true from by decide +kernel))
    obtain ⟨L, hL⟩ : ∃ L, L = (showing wd rows o).map (lawStop W) := ⟨_, rfl⟩
    have hLe : ((sorts wd).filter fun g' => decide (orderIn rows g' = o)).map (fun g' => eO eStop (lawStop W g')) = L.map (eO eStop) := by
      rw [hL, List.map_map]
      rfl
    rw [hLe]
    have hLl : L.length ≤ 60 := by
      rw [hL, List.length_map]
      exact Nat.le_trans (List.length_filter_le _ _) (sorts_few hwd)
    refine sd_as [.o (.q pk k'), .d (.int wd), .d (eRs rows), .d (eTable Za wd rows), .d (eHouse Za wd rows), .d (eIs hs), .d (eKs s), .d (eKs g), .d (eIs m), .no, .d (.lst (W.map eLW)), .d (eIs o), .d (.lst (L.map (eO eStop))), .no, .no, .no, .no, .no, .no, .no, .no, .no, .no, .no, .no] ?_
    refine sd_setLcM 14 [("_law_one", 13)] (L) ((eO eStop)) (fun x => x.isSome) (fun x => D.int ((x.map (·.1)).getD 0)) (pid_list (pd_var 12)) (Nat.le_trans hLl (by decide)) (fun q hq => ⟨_, _, by decide, (fun _ _ _ _ _ => (pgd_name 13 nd)), fun _ _ _ _ _ => ptsd_one (((pt_c (pcd_notN (pd_var 13))).cast (by rw [isNon_stop]; cases q <;> rfl))), fun hb _ _ _ _ _ => (by
      cases q with
      | none => cases hb
      | some y => exact pd_ix (ds := [.int y.1, eIs y.2.1, eIs y.2.2]) (pd_var 13) pd_int (.inr rfl) (atI0 _ _))⟩) ?_ nd (blkOk_by (show blkC ["_law_deck", "_law_width", "_law_rows_here", "_law_table", "_law_house", "_law_heads", "_law_keys_here", "_law_goal", "_law_marks", "_law_row", "_law_ways_here", "_law_order", "_law_stops", "_law_one", "_law_numbers", "_law_due", "_law_script", "_law_column", "_law_least", "_law_length", "_law_way", "_law_price", "_law_later", "_law_near", "_law_bare"] (defScope (topS 148)) _ [("_law_one", 13)] = true from by decide +kernel))
    rw [some_firsts]
    obtain ⟨Ns, hN⟩ : ∃ Ns, Ns = L.filterMap fun x => x.map (·.1) := ⟨_, rfl⟩
    rw [← hN]
    obtain ⟨Du, hDu⟩ : ∃ Du, Du = lawDue wd rows W o := ⟨_, rfl⟩
    have hDN : Du = minI Ns := by rw [hDu, hN, hL]; rfl
    refine sd_as [.o (.q pk k'), .d (.int wd), .d (eRs rows), .d (eTable Za wd rows), .d (eHouse Za wd rows), .d (eIs hs), .d (eKs s), .d (eKs g), .d (eIs m), .no, .d (.lst (W.map eLW)), .d (eIs o), .d (.lst (L.map (eO eStop))), .no, .d (eIs Ns), .no, .no, .no, .no, .no, .no, .no, .no, .no, .no] ?_
    refine sd_set 15 (pd_non) ?_ nd
    refine sd_ifSet (t := !Ns.isEmpty) 15 (eO D.int Du) (pt_c (pcd_neNil hul (pd_var 14) (fun b _ => rfl))) (fun z => ?_) (fun z => ?_) ?_
    · cases Ns with
      | nil => cases z
      | cons b r =>
        obtain ⟨M, hM⟩ : ∃ M, minI (b :: r) = some M := ⟨_, rfl⟩
        obtain ⟨m1, m2⟩ := (minI_min (b :: r)).2 M hM
        rw [hDN, hM]
        refine sd_set 15 (pd_minI Z.bl.min (pd_var 14) m1 m2) ?_ nd
        exact sd_nil (Weak.refl _)
    · cases Ns with
      | nil =>
        rw [hDN]
        exact sd_nil (Weak.refl _)
      | cons b r => cases z
    refine sd_as [.o (.q pk k'), .d (.int wd), .d (eRs rows), .d (eTable Za wd rows), .d (eHouse Za wd rows), .d (eIs hs), .d (eKs s), .d (eKs g), .d (eIs m), .no, .d (.lst (W.map eLW)), .d (eIs o), .d (.lst (L.map (eO eStop))), .no, .d (eIs Ns), .d (eO D.int Du), .no, .no, .no, .no, .no, .no, .no, .no, .no] ?_
    refine sd_setLcA 16 [("_law_column", 17)] (hs) (D.int) ((fun c => eC ("sort", c))) (pid_list (pd_var 5)) ((by omega)) (fun c hc => ⟨_, _, by decide, (fun _ _ _ _ _ => (pgd_name 17 nd)), fun _ _ _ _ _ => ptsd_nil, fun _ _ _ _ _ _ => (pd_tup (pds_cons (pd_str) (pds_cons ((pd_var 17)) pds_nil)))⟩) ?_ nd (blkOk_by (show blkC ["_law_deck", "_law_width", "_law_rows_here", "_law_table", "_law_house", "_law_heads", "_law_keys_here", "_law_goal", "_law_marks", "_law_row", "_law_ways_here", "_law_order", "_law_stops", "_law_one", "_law_numbers", "_law_due", "_law_script", "_law_column", "_law_least", "_law_length", "_law_way", "_law_price", "_law_later", "_law_near", "_law_bare"] (defScope (topS 148)) _ [("_law_column", 17)] = true from by decide +kernel))
    rw [show D.lst (hs.map fun c => eC ("sort", c)) = eCs (headsOf hs) by
      show _ = D.lst ((headsOf hs).map eC)
      unfold headsOf
      rw [List.map_map]
      rfl]
    refine sd_as [.o (.q pk k'), .d (.int wd), .d (eRs rows), .d (eTable Za wd rows), .d (eHouse Za wd rows), .d (eIs hs), .d (eKs s), .d (eKs g), .d (eIs m), .no, .d (.lst (W.map eLW)), .d (eIs o), .d (.lst (L.map (eO eStop))), .no, .d (eIs Ns), .d (eO D.int Du), .d (eCs (headsOf hs)), .no, .no, .no, .no, .no, .no, .no, .no] ?_
    have goalO : GoalOk rows (some o) m := ⟨fun x hx => by cases hx; rw [ho]; exact orderIn_perm rows g, hup, by omega, hin⟩
    have goalN : GoalOk rows none m := ⟨fun x hx => (nomatch hx), hup, by omega, hin⟩
    have goalE : GoalOk rows (some o) [] := ⟨goalO.ord, .nil, Nat.zero_le _, fun x hx => absurd hx List.not_mem_nil⟩
    have hh3 : Tb wd rows ∧ hs.length ≤ 3 ∧ ∀ c ∈ hs, 0 ≤ c ∧ c < (wd : Int) := ⟨ht, hhl, hh⟩
    refine sd_check ((pt_not' (pt_v (t := true) (pd_call (F__law_plan_right Z) (hr.mono (by decide)) (pds_cons ((pd_var 4)) (pds_cons ((pd_var 16)) (pds_cons ((pd_var 11)) (pds_cons ((pd_var 8)) (pds_cons ((pd_var 15)) pds_nil))))) ⟨wd, rows, hs, some o, m, Du, rfl, ⟨⟨hh3, goalO⟩, by rw [← hsd, plan_due ht, hDu, hW]⟩, rfl⟩))).cast rfl) ?_
    obtain ⟨Le, hLe2⟩ := least_some ht hsin m
    rw [← hW] at hLe2
    obtain ⟨l1, l2⟩ := (minI_min (W.map fun q : LW => q.1 + q.2.2.1)).2 Le hLe2
    refine sd_set 18 (pd_minI (ns := W.map fun q : LW => q.1 + q.2.2.1) Z.bl.min (PD.cast (pd_lcA [("_law_length", 19), ("_law_way", 20), ("_law_price", 21), ("_law_later", 22)] (W) (eLW) ((fun q => .int (q.1 + q.2.2.1))) (pid_list (pd_var 10)) (Nat.le_trans hWl (by decide)) (fun q hq => ⟨_, _, by decide, (fun _ _ _ _ _ => (pgd_tup (pgsd_cons (pgd_name 19 nd) (pgsd_cons (pgd_name 20 nd) (pgsd_cons (pgd_name 21 nd) (pgsd_cons (pgd_name 22 nd) pgsd_nil)))))), fun _ _ _ _ _ => ptsd_nil, fun _ _ _ _ _ _ => (pd_add (pd_var 19) (pd_var 21))⟩) nd (blkOk_by (show blkC ["_law_deck", "_law_width", "_law_rows_here", "_law_table", "_law_house", "_law_heads", "_law_keys_here", "_law_goal", "_law_marks", "_law_row", "_law_ways_here", "_law_order", "_law_stops", "_law_one", "_law_numbers", "_law_due", "_law_script", "_law_column", "_law_least", "_law_length", "_law_way", "_law_price", "_law_later", "_law_near", "_law_bare"] (defScope (topS 148)) _ [("_law_length", 19), ("_law_way", 20), ("_law_price", 21), ("_law_later", 22)] = true from by decide +kernel))) (by rw [List.map_map]; rfl)) l1 l2) ?_ nd
    refine sd_as [.o (.q pk k'), .d (.int wd), .d (eRs rows), .d (eTable Za wd rows), .d (eHouse Za wd rows), .d (eIs hs), .d (eKs s), .d (eKs g), .d (eIs m), .no, .d (.lst (W.map eLW)), .d (eIs o), .d (.lst (L.map (eO eStop))), .no, .d (eIs Ns), .d (eO D.int Du), .d (eCs (headsOf hs)), .no, .d (.int Le), .no, .no, .no, .no, .no, .no] ?_
    refine sd_check (PTd.cast (pw_t (pwd_or (p := false) (PTd.cast (pw_t (pwd_and (p := !Du.isNone) (q := false) ((pt_c (pcd_notN (pd_var 15))).cast (by rw [isNon_int])) fun z => ?_)) (by simp)) fun _ => pwd_or1 (t := false) ((pt_not' (pt_v (t := true) (pd_call (F__law_plan_right Z) (hr.mono (by decide)) (pds_cons ((pd_var 4)) (pds_cons ((pd_var 16)) (pds_cons (pd_non) (pds_cons ((pd_var 8)) (pds_cons ((pd_var 18)) pds_nil))))) ⟨wd, rows, hs, none, m, some Le, rfl, ⟨⟨hh3, goalN⟩, by rw [← hsd, plan_least ht, ← hW, hLe2]⟩, rfl⟩))).cast rfl))) rfl) ?_
    · cases Du with
      | none => cases z
      | some d =>
        have hle := least_le ht (s := s) (o := o) (m := m) (by rw [← hW]; exact hLe2) (by rw [← hW]; exact hDu.symm)
        exact pwd_and1 ((pt_c (pcd_gt (i := Le) (j := d) (pd_var 18) ((pd_var 15).cast rfl))).cast (decide_eq_false (by omega)))
    obtain ⟨N, hNr⟩ : ∃ N, N = nearestWay wd rows s o := ⟨_, rfl⟩
    refine sd_set 23 (d := eWay N) (PD.cast (pd_call (F_nearest Z) (hr.mono (by decide)) (pds_cons ((pd_var 3)) (pds_cons ((pd_var 6)) (pds_cons ((pd_var 11)) pds_nil))) ⟨wd, rows, s, o, rfl, ⟨⟨ht, hss⟩, goalO.ord o rfl⟩, rfl⟩) (by rw [hNr])) ?_ nd
    refine sd_as [.o (.q pk k'), .d (.int wd), .d (eRs rows), .d (eTable Za wd rows), .d (eHouse Za wd rows), .d (eIs hs), .d (eKs s), .d (eKs g), .d (eIs m), .no, .d (.lst (W.map eLW)), .d (eIs o), .d (.lst (L.map (eO eStop))), .no, .d (eIs Ns), .d (eO D.int Du), .d (eCs (headsOf hs)), .no, .d (.int Le), .no, .no, .no, .no, .d (eWay N), .no] ?_
    have hiff : N.isNone = Du.isNone := by
      have h := near_due ht hsin o m
      rw [← hNr, ← hW, ← hDu] at h
      rw [Bool.eq_iff_iff, Option.isNone_iff_eq_none, Option.isNone_iff_eq_none]
      exact h
    refine sd_check (PTd.cast (pw_t (pwd_or (p := false) (PTd.cast (pw_t (pwd_and (p := decide (N = some [])) (q := false) (pt_c (pcd_eqE (x := N) (y := some []) pn_eWay hul (pd_var 23) ((pd_lst pds_nil).cast rfl))) fun z => ?_)) (by simp)) fun _ => pwd_or1 (t := false) ((pt_c (pcd_neB (pd_c (pcd_isN (pd_var 23))) (pd_c (pcd_isN (pd_var 15))))).cast (by rw [isNon_wayO, isNon_int, hiff]; simp)))) rfl) ?_
    · have z : N = some [] := of_decide_eq_true z
      cases Du with
      | none => rw [z] at hiff; cases hiff
      | some d =>
        have hle := near_nil ht hsin (o := o) (m := m) (by rw [← hNr]; exact z) (d := d) (by rw [← hW]; exact hDu.symm)
        have hnd : o.Nodup := by rw [ho]; exact order_nodup rows g
        have hol : o.length ≤ 100 := by rw [ho, orderIn_length]; omega
        exact pwd_and1 ((pt_c (pcd_gt (i := d) (j := costIn o m) ((pd_var 15).cast rfl) (pd_call (F_cost Z) (hr.mono (by decide)) (pds_cons ((pd_var 11)) (pds_cons ((pd_var 8)) pds_nil)) ⟨o, m, rfl, ⟨⟨hnd, hol⟩, hm100, fun x hx => by rw [ho]; exact mem_order ht g (hin x hx)⟩, rfl⟩))).cast (decide_eq_false (by omega)))
    refine sd_set 24 (pd_non) ?_ nd
    refine sd_ifSet (t := !N.isNone) 24 (eO D.int (N.map fun w => (w.length : Int))) ((pt_c (pcd_notN (pd_var 23))).cast (by rw [isNon_wayO])) (fun z => ?_) (fun z => ?_) ?_
    · cases N with
      | none => cases z
      | some w' =>
        refine sd_set 24 (d := .int ((w'.length : Nat) : Int)) ((pd_len Z.bl.len (ds := w'.map D.int) ((pd_var 23).cast rfl) (.inl rfl)).cast (by rw [List.length_map])) ?_ nd
        exact sd_nil (Weak.refl _)
    · cases N with
      | none => exact sd_nil (Weak.refl _)
      | some w' => cases z
    refine sd_as [.o (.q pk k'), .d (.int wd), .d (eRs rows), .d (eTable Za wd rows), .d (eHouse Za wd rows), .d (eIs hs), .d (eKs s), .d (eKs g), .d (eIs m), .no, .d (.lst (W.map eLW)), .d (eIs o), .d (.lst (L.map (eO eStop))), .no, .d (eIs Ns), .d (eO D.int Du), .d (eCs (headsOf hs)), .no, .d (.int Le), .no, .no, .no, .no, .d (eWay N), .d (eO D.int (N.map fun w => (w.length : Int)))] ?_
    exact sd_ret (pd_call (F__law_plan_right Z) (hr.mono (by decide)) (pds_cons ((pd_var 4)) (pds_cons ((pd_var 16)) (pds_cons ((pd_var 11)) (pds_cons (pd_lst pds_nil) (pds_cons ((pd_var 24)) pds_nil))))) ⟨wd, rows, hs, some o, [], N.map fun w => (w.length : Int), rfl, ⟨⟨hh3, goalE⟩, by rw [← hsd, plan_near ht hsin, hNr]⟩, rfl⟩) ⟨_, rfl, ⟨rfl, rfl, True.intro⟩, hk8.mono (by omega)⟩
end
end Lw
set_option Elab.async false
set_option linter.all false
set_option maxRecDepth 100000
set_option maxHeartbeats 4000000
/-! # the law -/
namespace Lw
open PySem PySem.Spec PyProof.Rows L2
theorem pd_modx {TB : Tbs} {X : Cx} {env : List Sl} {a b : Expr} {i j : Int} {pos : Pos} (ha : PD TB X a env (.int i)) (hb : PDx TB X b env (.int j)) (h : 0 < j) : PD TB X (.BinOp a .Mod b pos) env (.int (i % j)) := pd_mod ha hb.run h
theorem pd_subx {TB : Tbs} {X : Cx} {env : List Sl} {a b : Expr} {i j : Int} {pos : Pos} (ha : PD TB X a env (.int i)) (hb : PDx TB X b env (.int j)) : PD TB X (.BinOp a .Sub b pos) env (.int (i - j)) := pd_sub ha hb.run
theorem m39 : 0 < (10 : Int) ^ (39 : Int).toNat + 3 ∧ (10 : Int) ^ (39 : Int).toNat + 3 + 1 < 10 ^ 40 := by decide +kernel
theorem ok_four {K : PySem.W.Frag} {TB : Tbs} {w : Wd} {p : Addr} {c : Int} (g : Good TB w) : Ok K TB w w [some (V.ref p), some (.int 0), some (.int c), none] [.no, .d (.int 0), .d (.int c), .no] := by
  refine ⟨g, Le.refl w, rfl, fun i x e => ?_, fun i x e => ?_, fun i j x y q ne e1 e2 => ?_⟩
  · match i with
    | 0 => cases e
    | 1 => cases e; exact ⟨_, rfl, .int⟩
    | 2 => cases e; exact ⟨_, rfl, .int⟩
    | 3 => cases e
    | i + 4 => cases e
  · match i with
    | 0 => cases e
    | 1 => cases e
    | 2 => cases e
    | 3 => cases e
    | i + 4 => cases e
  · match i with
    | 0 => cases e1
    | 1 => cases e1
    | 2 => cases e1
    | 3 => cases e1
    | i + 4 => cases e1
def OpenE : Out → Prop
  | .ret d _ => ∃ a b : Int, d = .lst [.int a, .int b, .int 0] ∧ 0 ≤ a ∧ 0 ≤ b ∧ b < 10 ^ 40
  | _ => False
section
variable {TB : Tbs} {P : Program} {w : World} {K : PySem.W.Frag} {mg : Str → Option Value} {base : Heap} {Za : Ads}
theorem F__law_open (Z : Fx TB w K mg base Za) : FnX P w K mg base "_law_open" ["_law_script", "_law_k"] 1 (spO TB K) := by
  obtain ⟨f, fd, hm, F, hb⟩ := Z._law_open.ex
  refine ⟨f, fd, hm, F.kp, hb, F.ok (N := ["_law_script", "_law_k", "_law_cell", "_law_seed"]) ⟨rfl, rfl, rfl, by decide +kernel, rfl, by decide +kernel, by decide +kernel⟩ (fun vs H Q E h => ?_) (fun cdv A outer s0 H0 vs Q E hr h => ?_)⟩
  · obtain ⟨p, ns, rfl, _⟩ := h
    rfl
  · obtain ⟨p, xs, rfl, hsq, hts, q⟩ := h
    have nd : (["_law_script", "_law_k", "_law_cell", "_law_seed"] : List Str).Nodup := by decide +kernel
    refine ⟨_, pss_w _, ?_⟩
    show RunS (BX P w K mg base ["_law_script", "_law_k", "_law_cell", "_law_seed"] "_law_open" (defScope (topS 139)) f cdv A outer s0 H0 E) (defBody (topS 139)) { nx := fun _ H' => Q .non H', rt := Q } [some (V.ref p), some (.int 0), none, none] H0
    refine rs_set 2 (runE pe_int ?_) nd
    show RunS (BX P w K mg base ["_law_script", "_law_k", "_law_cell", "_law_seed"] "_law_open" (defScope (topS 139)) f cdv A outer s0 H0 E) _ _ [some (V.ref p), some (.int 0), some (.int 0), none] H0
    obtain ⟨c, hc⟩ : ∃ c, c = xs.headD 0 := ⟨_, rfl⟩
    suffices fin : RunS (BX P w K mg base ["_law_script", "_law_k", "_law_cell", "_law_seed"] "_law_open" (defScope (topS 139)) f cdv A outer s0 H0 E) (defBody (topS 139)).tail.tail { nx := fun _ H' => Q .non H', rt := Q } [some (V.ref p), some (.int 0), some (.int c), none] H0 by
      refine rs_if (t := decide ((0 : Int) < (xs.length : Nat))) (rt_lt (i := 0) (j := (xs.length : Nat)) rfl (fun Q q => re_var 1 rfl q) (fun Q q => re_len 0 Z.bl.len rfl hsq (by rw [List.length_map]; exact q))) (fun z => ?_) (fun z => ?_)
      · cases xs with
        | nil => cases z
        | cons x r =>
          subst hc
          refine rs_set 2 (re_ix 0 (j := 0) rfl hsq (fun Q q => re_var 1 rfl q) (atI0 _ _) ?_) nd
          exact rs_nil fin
      · cases xs with
        | nil =>
          subst hc
          exact rs_nil fin
        | cons x r =>
          exfalso
          have := of_decide_eq_false z
          rw [List.length_cons] at this
          omega
    have body : SD TB (BX P w K mg base ["_law_script", "_law_k", "_law_cell", "_law_seed"] "_law_open" (defScope (topS 139)) f cdv A outer s0 H0 E) (defBody (topS 139)).tail.tail [.no, .d (.int 0), .d (.int c), .no] OpenE := by
      refine sd_set 3 (pd_add (pd_add (pd_modx (pd_intI Z.bl.int (pd_add (pd_mul pd_int (pd_abs Z.bl.abs (pd_var 2)) (.inl ⟨by decide, by decide⟩)) (pd_intB Z.bl.int (pd_c (pcd_lt (pd_var 2) pd_int))))) (pdx_powAdd ⟨by decide, by decide, by decide⟩) m39.1) (pd_mul pd_int (pd_var 1) (.inl ⟨by decide, by decide⟩))) pd_int) ?_ nd
      generalize hv : (2 * (if c < 0 then -c else c) + (if decide (c < 0) then (1 : Int) else 0)) = v
      obtain ⟨M, hM⟩ : ∃ M, M = (10 : Int) ^ (39 : Int).toNat + 3 := ⟨_, rfl⟩
      have m1 := m39.1
      have m2 := m39.2
      rw [← hM] at m1 m2 ⊢
      have e1 := Int.emod_nonneg v (show M ≠ 0 by omega)
      have e2 := Int.emod_lt_of_pos v m1
      generalize v % M = u at e1 e2 ⊢
      refine sd_as [.no, .d (.int 0), .d (.int c), .d (.int (u + 5 * 0 + 1))] ?_
      refine sd_ret (pd_lst (pds_cons (pd_max2 Z.bl.max pd_int (pd_subx (pd_var 2) (pdx_pow ⟨by decide, by decide, by decide⟩))) (pds_cons ((pd_var 3)) (pds_cons (pd_int) pds_nil)))) ?_
      refine ⟨_, _, rfl, ?_, by omega, by omega⟩
      split <;> omega
    refine body ⟨E0h, H0⟩ ⟨E0h, H0⟩ _ _ (ok_four (good0 hts)) ⟨fun _ _ _ _ _ e => e.elim, fun v w' σ' env' d k' r' e => ?_, fun _ _ _ _ _ e => e.elim, fun _ _ _ _ _ e => e.elim⟩
    obtain ⟨a, b, rfl, ha, hb⟩ := e
    exact q v w' a b ha hb k'.good k'.le r'
theorem law_ok (Z : Fx TB w K mg base Za) {f : Addr} {fd : FuncData} (F : Fun K "law" "law" (topS 149) f fd) : FnOk P w K mg base CX0 17 f fd ["_law_script"] (spL TB K) := by
  refine F.ok (N := ["_law_script"]) ⟨rfl, rfl, rfl, by decide +kernel, rfl, by decide +kernel, by decide +kernel⟩ (fun vs H Q E h => ?_) (fun cdv A outer s0 H0 vs Q E hr h => ?_)
  · obtain ⟨p, ns, rfl, _⟩ := h
    rfl
  · obtain ⟨p, xs, rfl, hsq, hts, q⟩ := h
    refine ⟨_, pss_w _, ?_⟩
    show RunS (BX P w K mg base ["_law_script"] "law" (defScope (topS 149)) f cdv A outer s0 H0 E) (defBody (topS 149)) { nx := fun _ H' => Q .non H', rt := Q } [some (V.ref p)] H0
    exact runS (pss_one (ps_ret (pe_w _))) (re_law (i := 0) (F__law_right Z) (F__law_open Z) (hr.mono (by decide)) (hr.mono (by decide)) rfl hsq hts q)
end
end Lw
set_option Elab.async false
set_option linter.all false
set_option maxRecDepth 100000
set_option maxHeartbeats 4000000
/-! # what the head tells, as the defs want it -/
namespace Hd
open PySem PySem.Spec PyProof.Rows L2
section
variable {w : World} {h base : Heap} {K : PySem.W.Frag} {mg : Str → Option Value}
theorem fact_at (c : Says fa fn ts tf ex w h K) (i : Nat) {f : He.Fa} (e : fa[i]? = some f) : f.ok K = true := c.fact f (List.mem_of_getElem? e)
theorem def_at (c : Says fa fn ts tf ex w h K) (i : Nat) {d : DZ} (e : fn[i]? = some d) : ∃ fd, Fun K d.name d.qual d.st (d.ad K) fd := c.def_ d (List.mem_of_getElem? e)
theorem at_of (c : Says fa fn ts tf ex w h K) (X : K.In base) (G : base.Ns mainGlobals mg) {x : Str} {i : Nat} {ps : List Str} (j : Nat) (gf : (He.Fa.glo x).ok K = true) (hb : ∀ {f fd}, Fun K x x (Lw.topS i) f fd → Binds K fd ps []) (e : fn[j]? = some (dz x i) := by rfl) : Lw.At K mg x (Lw.topS i) ps := by
  obtain ⟨fd, F⟩ := def_at c j e
  exact ⟨⟨He.ga K x, fd, He.glo_ok X G gf, F, hb F⟩⟩
theorem lat_of (c : Says fa fn ts tf ex w h K) (X : K.In base) (G : base.Ns mainGlobals mg) {TB : Lw.Tbs} {x : Str} {i : Nat} {ps : List Str} (j : Nat) (gf : (He.Fa.glo x).ok K = true) (hb : ∀ {f fd}, Fun K x x (Lw.topS i) f fd → Binds K fd ps [])
    (tb : LamX.TabB base mg (He.cT K (x, none)).1 (He.cT K (x, none)).2) (mem : ((He.cT K (x, none)).2, x ++ ".<locals>." ++ "<lambda>") ∈ TB) (uniq : ∀ p ∈ TB, p.1 = (He.cT K (x, none)).2 → p.2 = x ++ ".<locals>." ++ "<lambda>") (e : fn[j]? = some (dz x i) := by rfl) : Lw.LAt TB K mg base x (Lw.topS i) ps := by
  obtain ⟨fd, F⟩ := def_at c j e
  have F : Fun K x x (Lw.topS i) (He.ga K x) fd := F
  have hb' := hb F
  have F0 := F
  obtain ⟨oc, od, kV, doc, pm, an, cdv, ct, osl, rfl, lk, hin⟩ := F0.ex
  obtain ⟨c0, rfl⟩ := He.codeIn_ref hin
  have ec : (He.cT K (x, none)).1 = c0 := He.codeOf_eq (p := (x, none)) lk rfl
  exact ⟨⟨He.ga K x, _, c0, (He.cT K (x, none)).2, He.glo_ok X G gf, F, hb', rfl, ec ▸ tb, mem, uniq⟩⟩
theorem mat_of (c : Says fa fn ts tf ex w h K) {C m q : Str} {i k : Nat} {ps : List Str} (j : Nat) (cf : (He.Fa.cls C).ok K = true) (mf : (He.Fa.meth C m).ok K = true) (hb : ∀ {f fd}, Fun K m q (inClass (Lw.topS i) k) f fd → Binds K fd ps []) (e : fn[j]? = some (dm C m q i k) := by rfl) : Lw.MAt K (He.ga K C) m q (inClass (Lw.topS i) k) ps := by
  obtain ⟨fd, F⟩ := def_at c j e
  exact ⟨⟨_, fd, He.cls_ok cf, He.meth_ok mf, F, hb F⟩⟩
theorem pat_of (c : Says fa fn ts tf ex w h K) {C m q : Str} {i k : Nat} (j : Nat) (cf : (He.Fa.cls C).ok K = true) (pf : prB K C m = true) (hb : ∀ {f fd}, Fun K m q (inClass (Lw.topS i) k) f fd → Binds K fd ["self"] []) (e : fn[j]? = some (dp C m q i k) := by rfl) : Lw.PAt K (He.ga K C) m q (inClass (Lw.topS i) k) := by
  obtain ⟨fd, F⟩ := def_at c j e
  exact ⟨⟨_, _, fd, He.cls_ok cf, prB_ok pf, F, hb F⟩⟩
theorem sat_of (c : Says fa fn ts tf ex w h K) {C m q : Str} {i k : Nat} {ps : List Str} (j : Nat) (sf : spB K C m = true) (hb : ∀ {f fd}, Fun K m q (inClass (Lw.topS i) k) f fd → Binds K fd ps []) (e : fn[j]? = some (dm C m q i k) := by rfl) : Lw.SAt K (He.ga K C) m q (inClass (Lw.topS i) k) ps := by
  obtain ⟨fd, F⟩ := def_at c j e
  obtain ⟨h1, h2⟩ := He.ba sf
  obtain ⟨h2, h3⟩ := He.ba h2
  exact ⟨⟨_, fd, He.eqO_ok h1, h2, h3, F, hb F⟩⟩
theorem iat_of (c : Says fa fn ts tf ex w h K) (X : K.In base) (G : base.Ns mainGlobals mg) {C q : Str} {i k : Nat} {ps : List Str} (j : Nat) (gf : (He.Fa.glo C).ok K = true) (mf : (He.Fa.mkr C).ok K = true) (hb : ∀ {f fd}, Fun K "__init__" q (inClass (Lw.topS i) k) f fd → Binds K fd ps []) (e : fn[j]? = some (dm C "__init__" q i k) := by rfl) : Lw.IAt K mg (He.ga K C) C q (inClass (Lw.topS i) k) ps := by
  obtain ⟨fd, F⟩ := def_at c j e
  exact ⟨⟨_, fd, He.glo_ok X G gf, He.mkr_ok mf, F, hb F⟩⟩
def TBk (K : PySem.W.Frag) : Lw.Tbs := [((He.cT K ("order_in", none)).2, (("order_in" : Str) ++ ".<locals>." ++ "<lambda>")), ((He.cT K ("first_of", none)).2, (("first_of" : Str) ++ ".<locals>." ++ "<lambda>"))]
def Zk (K : PySem.W.Frag) : Lw.Ads := ⟨He.ga K "View", He.ga K "House", He.ga K "Spot", He.ga K "Moment", He.ga K "Table"⟩

theorem fx_of (c : Says fa fn ts tf ex w h K) (X : K.In base) (G : base.Ns mainGlobals mg) (tb : ∀ p ∈ tf, LamX.TabB base mg (He.cT K p).1 (He.cT K p).2) : Lw.Fx (TBk K) w K mg base (Zk K) := by
  have hex := c.more
  unfold ex exB mkB at hex
  simp only [Bool.and_eq_true] at hex
  obtain ⟨⟨⟨⟨⟨⟨⟨⟨⟨⟨p0, p1⟩, p2⟩, p3⟩, p4⟩, p5⟩, p6⟩, p7⟩, p8⟩, p9⟩, kl, kt, kv, kd⟩ := hex
  have hne : (He.cT K ("order_in", none)).2 ≠ (He.cT K ("first_of", none)).2 := fun z => by
    rw [z, beq_self_eq_true] at kd
    cases kd
  exact {
    bl := ⟨He.free_ok X G (fact_at c 0 (f := .free "len") rfl), He.free_ok X G (fact_at c 1 (f := .free "range") rfl), He.free_ok X G (fact_at c 2 (f := .free "list") rfl), He.free_ok X G (fact_at c 3 (f := .free "tuple") rfl), He.free_ok X G (fact_at c 4 (f := .free "all") rfl), He.free_ok X G (fact_at c 5 (f := .free "any") rfl), He.free_ok X G (fact_at c 6 (f := .free "sum") rfl), He.free_ok X G (fact_at c 7 (f := .free "min") rfl), He.free_ok X G (fact_at c 8 (f := .free "max") rfl), He.free_ok X G (fact_at c 9 (f := .free "set") rfl), He.free_ok X G (fact_at c 10 (f := .free "sorted") rfl), He.free_ok X G (fact_at c 11 (f := .free "enumerate") rfl), He.free_ok X G (fact_at c 12 (f := .free "zip") rfl), He.free_ok X G (fact_at c 13 (f := .free "int") rfl), He.free_ok X G (fact_at c 14 (f := .free "abs") rfl), He.free_ok X G (fact_at c 15 (f := .free "dict") rfl)⟩
    need_column := at_of c X G 0 (fact_at c 51 (f := .glo "need_column") rfl) (fun F => F.binds fun _ _ _ _ _ _ us hl => match us, hl with | [_, _], _ => rfl)
    need_row := at_of c X G 1 (fact_at c 52 (f := .glo "need_row") rfl) (fun F => F.binds fun _ _ _ _ _ _ us hl => match us, hl with | [_, _], _ => rfl)
    are_keys := at_of c X G 2 (fact_at c 53 (f := .glo "are_keys") rfl) (fun F => F.binds fun _ _ _ _ _ _ us hl => match us, hl with | [_], _ => rfl)
    is_sorting_of := at_of c X G 3 (fact_at c 54 (f := .glo "is_sorting_of") rfl) (fun F => F.binds fun _ _ _ _ _ _ us hl => match us, hl with | [_, _], _ => rfl)
    need_sorting := at_of c X G 4 (fact_at c 55 (f := .glo "need_sorting") rfl) (fun F => F.binds fun _ _ _ _ _ _ us hl => match us, hl with | [_, _], _ => rfl)
    need_order := at_of c X G 5 (fact_at c 56 (f := .glo "need_order") rfl) (fun F => F.binds fun _ _ _ _ _ _ us hl => match us, hl with | [_, _], _ => rfl)
    after_click := at_of c X G 6 (fact_at c 57 (f := .glo "after_click") rfl) (fun F => F.binds fun _ _ _ _ _ _ us hl => match us, hl with | [_, _], _ => rfl)
    need_filters := at_of c X G 7 (fact_at c 58 (f := .glo "need_filters") rfl) (fun F => F.binds fun _ _ _ _ _ _ us hl => match us, hl with | [_, _], _ => rfl)
    lets := at_of c X G 8 (fact_at c 59 (f := .glo "lets") rfl) (fun F => F.binds fun _ _ _ _ _ _ us hl => match us, hl with | [_, _], _ => rfl)
    lets_all := at_of c X G 9 (fact_at c 60 (f := .glo "lets_all") rfl) (fun F => F.binds fun _ _ _ _ _ _ us hl => match us, hl with | [_, _], _ => rfl)
    rows_let := at_of c X G 10 (fact_at c 61 (f := .glo "rows_let") rfl) (fun F => F.binds fun _ _ _ _ _ _ us hl => match us, hl with | [_, _], _ => rfl)
    open_filters := at_of c X G 11 (fact_at c 62 (f := .glo "open_filters") rfl) (fun F => F.binds fun _ _ _ _ _ _ us hl => match us, hl with | [_], _ => rfl)
    let_rows := at_of c X G 12 (fact_at c 63 (f := .glo "let_rows") rfl) (fun F => F.binds fun _ _ _ _ _ _ us hl => match us, hl with | [_, _], _ => rfl)
    check_there := at_of c X G 13 (fact_at c 64 (f := .glo "check_there") rfl) (fun F => F.binds fun _ _ _ _ _ _ us hl => match us, hl with | [_], _ => rfl)
    are_marks := at_of c X G 14 (fact_at c 65 (f := .glo "are_marks") rfl) (fun F => F.binds fun _ _ _ _ _ _ us hl => match us, hl with | [_], _ => rfl)
    check_marks := at_of c X G 15 (fact_at c 66 (f := .glo "check_marks") rfl) (fun F => F.binds fun _ _ _ _ _ _ us hl => match us, hl with | [_], _ => rfl)
    check_marks_there := at_of c X G 16 (fact_at c 67 (f := .glo "check_marks_there") rfl) (fun F => F.binds fun _ _ _ _ _ _ us hl => match us, hl with | [_, _], _ => rfl)
    check_marks_of := at_of c X G 17 (fact_at c 68 (f := .glo "check_marks_of") rfl) (fun F => F.binds fun _ _ _ _ _ _ us hl => match us, hl with | [_, _], _ => rfl)
    check_clicks := at_of c X G 18 (fact_at c 69 (f := .glo "check_clicks") rfl) (fun F => F.binds fun _ _ _ _ _ _ us hl => match us, hl with | [_, _], _ => rfl)
    places_of := at_of c X G 19 (fact_at c 70 (f := .glo "places_of") rfl) (fun F => F.binds fun _ _ _ _ _ _ us hl => match us, hl with | [_], _ => rfl)
    marked_in := at_of c X G 20 (fact_at c 71 (f := .glo "marked_in") rfl) (fun F => F.binds fun _ _ _ _ _ _ us hl => match us, hl with | [_, _, _, _], _ => rfl)
    borders_in := at_of c X G 21 (fact_at c 72 (f := .glo "borders_in") rfl) (fun F => F.binds fun _ _ _ _ _ _ us hl => match us, hl with | [_, _], _ => rfl)
    blocks_of := at_of c X G 22 (fact_at c 73 (f := .glo "blocks_of") rfl) (fun F => F.binds fun _ _ _ _ _ _ us hl => match us, hl with | [_], _ => rfl)
    cost_in := at_of c X G 23 (fact_at c 74 (f := .glo "cost_in") rfl) (fun F => F.binds fun _ _ _ _ _ _ us hl => match us, hl with | [_, _], _ => rfl)
    check_state := at_of c X G 24 (fact_at c 75 (f := .glo "check_state") rfl) (fun F => F.binds fun _ _ _ _ _ _ us hl => match us, hl with | [_, _, _], _ => rfl)
    marked := at_of c X G 25 (fact_at c 76 (f := .glo "marked") rfl) (fun F => F.binds fun _ _ _ _ _ _ us hl => match us, hl with | [_, _, _, _], _ => rfl)
    cost := at_of c X G 26 (fact_at c 77 (f := .glo "cost") rfl) (fun F => F.binds fun _ _ _ _ _ _ us hl => match us, hl with | [_, _], _ => rfl)
    numbers_of_covers := at_of c X G 27 (fact_at c 78 (f := .glo "numbers_of_covers") rfl) (fun F => F.binds fun _ _ _ _ _ _ us hl => match us, hl with | [_], _ => rfl)
    block_cover := at_of c X G 28 (fact_at c 79 (f := .glo "block_cover") rfl) (fun F => F.binds fun _ _ _ _ _ _ us hl => match us, hl with | [_, _], _ => rfl)
    cover_in := at_of c X G 29 (fact_at c 80 (f := .glo "cover_in") rfl) (fun F => F.binds fun _ _ _ _ _ _ us hl => match us, hl with | [_, _, _], _ => rfl)
    clicks_in := at_of c X G 30 (fact_at c 81 (f := .glo "clicks_in") rfl) (fun F => F.binds fun _ _ _ _ _ _ us hl => match us, hl with | [_], _ => rfl)
    need_width := at_of c X G 31 (fact_at c 82 (f := .glo "need_width") rfl) (fun F => F.binds fun _ _ _ _ _ _ us hl => match us, hl with | [_], _ => rfl)
    all_sortings := at_of c X G 32 (fact_at c 83 (f := .glo "all_sortings") rfl) (fun F => F.binds fun _ _ _ _ _ _ us hl => match us, hl with | [_], _ => rfl)
    after_clicks := at_of c X G 33 (fact_at c 84 (f := .glo "after_clicks") rfl) (fun F => F.binds fun _ _ _ _ _ _ us hl => match us, hl with | [_, _], _ => rfl)
    order_in := lat_of c X G 34 (fact_at c 85 (f := .glo "order_in") rfl) (fun F => F.binds fun _ _ _ _ _ _ us hl => match us, hl with | [_, _], _ => rfl) (tb ("order_in", none) (by unfold tf; simp)) (by unfold TBk; simp) (fun p hp z => by
      unfold TBk at hp
      rcases List.mem_cons.mp hp with rfl | hp
      · rfl
      · rcases List.mem_cons.mp hp with rfl | hp
        · exact absurd z.symm hne
        · cases hp)
    is_sorting := at_of c X G 35 (fact_at c 86 (f := .glo "is_sorting") rfl) (fun F => F.binds fun _ _ _ _ _ _ us hl => match us, hl with | [_, _], _ => rfl)
    sortings := at_of c X G 36 (fact_at c 87 (f := .glo "sortings") rfl) (fun F => F.binds fun _ _ _ _ _ _ us hl => match us, hl with | [_], _ => rfl)
    clicked := at_of c X G 37 (fact_at c 88 (f := .glo "clicked") rfl) (fun F => F.binds fun _ _ _ _ _ _ us hl => match us, hl with | [_, _, _], _ => rfl)
    order_of := at_of c X G 38 (fact_at c 89 (f := .glo "order_of") rfl) (fun F => F.binds fun _ _ _ _ _ _ us hl => match us, hl with | [_, _], _ => rfl)
    way_between := at_of c X G 39 (fact_at c 90 (f := .glo "way_between") rfl) (fun F => F.binds fun _ _ _ _ _ _ us hl => match us, hl with | [_, _], _ => rfl)
    clicks_of_front := at_of c X G 40 (fact_at c 91 (f := .glo "clicks_of_front") rfl) (fun F => F.binds fun _ _ _ _ _ _ us hl => match us, hl with | [_, _], _ => rfl)
    need_two := at_of c X G 41 (fact_at c 92 (f := .glo "need_two") rfl) (fun F => F.binds fun _ _ _ _ _ _ us hl => match us, hl with | [_, _, _], _ => rfl)
    distance := at_of c X G 42 (fact_at c 93 (f := .glo "distance") rfl) (fun F => F.binds fun _ _ _ _ _ _ us hl => match us, hl with | [_, _, _], _ => rfl)
    first_way := at_of c X G 43 (fact_at c 94 (f := .glo "first_way") rfl) (fun F => F.binds fun _ _ _ _ _ _ us hl => match us, hl with | [_, _, _], _ => rfl)
    showing := at_of c X G 44 (fact_at c 95 (f := .glo "showing") rfl) (fun F => F.binds fun _ _ _ _ _ _ us hl => match us, hl with | [_, _], _ => rfl)
    first_of := lat_of c X G 45 (fact_at c 96 (f := .glo "first_of") rfl) (fun F => F.binds fun _ _ _ _ _ _ us hl => match us, hl with | [_], _ => rfl) (tb ("first_of", none) (by unfold tf; simp)) (by unfold TBk; simp) (fun p hp z => by
      unfold TBk at hp
      rcases List.mem_cons.mp hp with rfl | hp
      · exact absurd z hne
      · rcases List.mem_cons.mp hp with rfl | hp
        · rfl
        · cases hp)
    nearest := at_of c X G 46 (fact_at c 97 (f := .glo "nearest") rfl) (fun F => F.binds fun _ _ _ _ _ _ us hl => match us, hl with | [_, _, _], _ => rfl)
    cheapest_in := at_of c X G 47 (fact_at c 98 (f := .glo "cheapest_in") rfl) (fun F => F.binds fun _ _ _ _ _ _ us hl => match us, hl with | [_, _], _ => rfl)
    costs_by_sorting := at_of c X G 48 (fact_at c 99 (f := .glo "costs_by_sorting") rfl) (fun F => F.binds fun _ _ _ _ _ _ us hl => match us, hl with | [_, _], _ => rfl)
    cheapest_sorting := at_of c X G 49 (fact_at c 100 (f := .glo "cheapest_sorting") rfl) (fun F => F.binds fun _ _ _ _ _ _ us hl => match us, hl with | [_, _, _], _ => rfl)
    one_stop := at_of c X G 50 (fact_at c 101 (f := .glo "one_stop") rfl) (fun F => F.binds fun _ _ _ _ _ _ us hl => match us, hl with | [_, _, _, _], _ => rfl)
    need_from := at_of c X G 51 (fact_at c 102 (f := .glo "need_from") rfl) (fun F => F.binds fun _ _ _ _ _ _ us hl => match us, hl with | [_, _], _ => rfl)
    need_rooms := at_of c X G 52 (fact_at c 103 (f := .glo "need_rooms") rfl) (fun F => F.binds fun _ _ _ _ _ _ us hl => match us, hl with | [_], _ => rfl)
    between := at_of c X G 53 (fact_at c 104 (f := .glo "between") rfl) (fun F => F.binds fun _ _ _ _ _ _ us hl => match us, hl with | [_, _, _], _ => rfl)
    room_for := at_of c X G 54 (fact_at c 105 (f := .glo "room_for") rfl) (fun F => F.binds fun _ _ _ _ _ _ us hl => match us, hl with | [_, _], _ => rfl)
    room_of := at_of c X G 55 (fact_at c 106 (f := .glo "room_of") rfl) (fun F => F.binds fun _ _ _ _ _ _ us hl => match us, hl with | [_, _], _ => rfl)
    clipped := at_of c X G 56 (fact_at c 107 (f := .glo "clipped") rfl) (fun F => F.binds fun _ _ _ _ _ _ us hl => match us, hl with | [_, _], _ => rfl)
    first_double := at_of c X G 57 (fact_at c 108 (f := .glo "first_double") rfl) (fun F => F.binds fun _ _ _ _ _ _ us hl => match us, hl with | [_], _ => rfl)
    shown_in := at_of c X G 58 (fact_at c 109 (f := .glo "shown_in") rfl) (fun F => F.binds fun _ _ _ _ _ _ us hl => match us, hl with | [_, _, _], _ => rfl)
    groups_in := at_of c X G 59 (fact_at c 110 (f := .glo "groups_in") rfl) (fun F => F.binds fun _ _ _ _ _ _ us hl => match us, hl with | [_, _, _], _ => rfl)
    lines_in := at_of c X G 60 (fact_at c 111 (f := .glo "lines_in") rfl) (fun F => F.binds fun _ _ _ _ _ _ us hl => match us, hl with | [_, _], _ => rfl)
    is_name := at_of c X G 61 (fact_at c 112 (f := .glo "is_name") rfl) (fun F => F.binds fun _ _ _ _ _ _ us hl => match us, hl with | [_], _ => rfl)
    require_names := at_of c X G 62 (fact_at c 113 (f := .glo "require_names") rfl) (fun F => F.binds fun _ _ _ _ _ _ us hl => match us, hl with | [_], _ => rfl)
    require_unlike := at_of c X G 63 (fact_at c 114 (f := .glo "require_unlike") rfl) (fun F => F.binds fun _ _ _ _ _ _ us hl => match us, hl with | [_], _ => rfl)
    need_window := at_of c X G 64 (fact_at c 115 (f := .glo "need_window") rfl) (fun F => F.binds fun _ _ _ _ _ _ us hl => match us, hl with | [_, _], _ => rfl)
    first_moment := at_of c X G 65 (fact_at c 116 (f := .glo "first_moment") rfl) (fun F => F.binds fun _ _ _ _ _ _ us hl => match us, hl with | [_], _ => rfl)
    need_deed := at_of c X G 66 (fact_at c 117 (f := .glo "need_deed") rfl) (fun F => F.binds fun _ _ _ _ _ _ us hl => match us, hl with | [_], _ => rfl)
    clicked_on := at_of c X G 67 (fact_at c 118 (f := .glo "clicked_on") rfl) (fun F => F.binds fun _ _ _ _ _ _ us hl => match us, hl with | [_, _], _ => rfl)
    clipped_moment := at_of c X G 68 (fact_at c 119 (f := .glo "clipped_moment") rfl) (fun F => F.binds fun _ _ _ _ _ _ us hl => match us, hl with | [_, _], _ => rfl)
    moment_after := at_of c X G 69 (fact_at c 120 (f := .glo "moment_after") rfl) (fun F => F.binds fun _ _ _ _ _ _ us hl => match us, hl with | [_, _, _, _, _], _ => rfl)
    moments_of := at_of c X G 70 (fact_at c 121 (f := .glo "moments_of") rfl) (fun F => F.binds fun _ _ _ _ _ _ us hl => match us, hl with | [_, _, _, _], _ => rfl)
    last_moment := at_of c X G 71 (fact_at c 122 (f := .glo "last_moment") rfl) (fun F => F.binds fun _ _ _ _ _ _ us hl => match us, hl with | [_, _, _, _], _ => rfl)
    last_or_none := at_of c X G 72 (fact_at c 123 (f := .glo "last_or_none") rfl) (fun F => F.binds fun _ _ _ _ _ _ us hl => match us, hl with | [_, _, _, _], _ => rfl)
    spot_after := at_of c X G 73 (fact_at c 124 (f := .glo "spot_after") rfl) (fun F => F.binds fun _ _ _ _ _ _ us hl => match us, hl with | [_, _, _, _], _ => rfl)
    heads := at_of c X G 74 (fact_at c 125 (f := .glo "heads") rfl) (fun F => F.binds fun _ _ _ _ _ _ us hl => match us, hl with | [_], _ => rfl)
    way_to_order := at_of c X G 75 (fact_at c 126 (f := .glo "way_to_order") rfl) (fun F => F.binds fun _ _ _ _ _ _ us hl => match us, hl with | [_, _, _], _ => rfl)
    need_plain := at_of c X G 76 (fact_at c 127 (f := .glo "need_plain") rfl) (fun F => F.binds fun _ _ _ _ _ _ us hl => match us, hl with | [_, _], _ => rfl)
    plan_by := at_of c X G 77 (fact_at c 128 (f := .glo "plan_by") rfl) (fun F => F.binds fun _ _ _ _ _ _ us hl => match us, hl with | [_, _, _, _, _], _ => rfl)
    need_goal := at_of c X G 78 (fact_at c 129 (f := .glo "need_goal") rfl) (fun F => F.binds fun _ _ _ _ _ _ us hl => match us, hl with | [_, _, _], _ => rfl)
    plan := at_of c X G 79 (fact_at c 130 (f := .glo "plan") rfl) (fun F => F.binds fun _ _ _ _ _ _ us hl => match us, hl with | [_, _, _, _, _, _], _ => rfl)
    judge_plan := at_of c X G 80 (fact_at c 131 (f := .glo "judge_plan") rfl) (fun F => F.binds fun _ _ _ _ _ _ us hl => match us, hl with | [_, _, _, _, _, _, _], _ => rfl)
    _law_open := at_of c X G 81 (fact_at c 132 (f := .glo "_law_open") rfl) (fun F => F.binds fun _ _ _ _ _ _ us hl => match us, hl with | [_, _], _ => rfl)
    _law_draw := at_of c X G 82 (fact_at c 133 (f := .glo "_law_draw") rfl) (fun F => F.binds fun _ _ _ _ _ _ us hl => match us, hl with | [_, _], _ => rfl)
    _law_rows := at_of c X G 83 (fact_at c 134 (f := .glo "_law_rows") rfl) (fun F => F.binds fun _ _ _ _ _ _ us hl => match us, hl with | [_, _, _], _ => rfl)
    _law_clicks := at_of c X G 84 (fact_at c 135 (f := .glo "_law_clicks") rfl) (fun F => F.binds fun _ _ _ _ _ _ us hl => match us, hl with | [_, _, _], _ => rfl)
    _law_keys := at_of c X G 85 (fact_at c 136 (f := .glo "_law_keys") rfl) (fun F => F.binds fun _ _ _ _ _ _ us hl => match us, hl with | [_, _], _ => rfl)
    _law_ways := at_of c X G 86 (fact_at c 137 (f := .glo "_law_ways") rfl) (fun F => F.binds fun _ _ _ _ _ _ us hl => match us, hl with | [_, _, _], _ => rfl)
    _law_stop := at_of c X G 87 (fact_at c 138 (f := .glo "_law_stop") rfl) (fun F => F.binds fun _ _ _ _ _ _ us hl => match us, hl with | [_, _, _], _ => rfl)
    _law_stops_right := at_of c X G 88 (fact_at c 139 (f := .glo "_law_stops_right") rfl) (fun F => F.binds fun _ _ _ _ _ _ us hl => match us, hl with | [_, _, _, _, _], _ => rfl)
    _law_plan_right := at_of c X G 89 (fact_at c 140 (f := .glo "_law_plan_right") rfl) (fun F => F.binds fun _ _ _ _ _ _ us hl => match us, hl with | [_, _, _, _, _], _ => rfl)
    _law_right := at_of c X G 90 (fact_at c 141 (f := .glo "_law_right") rfl) (fun F => F.binds fun _ _ _ _ _ _ us hl => match us, hl with | [_], _ => rfl)
    law := at_of c X G 91 (fact_at c 142 (f := .glo "law") rfl) (fun F => F.binds fun _ _ _ _ _ _ us hl => match us, hl with | [_], _ => rfl)
    cls_View := He.cls_ok (fact_at c 16 (f := .cls "View") rfl)
    no_View_held_table := He.noat_ok (fact_at c 18 (f := .noat "View" "held_table") rfl)
    no_View_held_sorting := He.noat_ok (fact_at c 19 (f := .noat "View" "held_sorting") rfl)
    no_View_held_filters := He.noat_ok (fact_at c 20 (f := .noat "View" "held_filters") rfl)
    no_View_held_folds := He.noat_ok (fact_at c 21 (f := .noat "View" "held_folds") rfl)
    no_View_held_groups := He.noat_ok (fact_at c 22 (f := .noat "View" "held_groups") rfl)
    no_View_held_shown := He.noat_ok (fact_at c 23 (f := .noat "View" "held_shown") rfl)
    no_View_held_lines := He.noat_ok (fact_at c 24 (f := .noat "View" "held_lines") rfl)
    View_init := iat_of c X G 92 (fact_at c 143 (f := .glo "View") rfl) (fact_at c 17 (f := .mkr "View") rfl) (fun F => F.binds fun _ _ _ _ _ _ us hl => match us, hl with | [_, _, _, _, _], _ => rfl)
    View_shown := mat_of c 93 (fact_at c 16 (f := .cls "View") rfl) (fact_at c 25 (f := .meth "View" "shown") rfl) (fun F => F.binds fun _ _ _ _ _ _ us hl => match us, hl with | [_], _ => rfl)
    View_open_rows := mat_of c 94 (fact_at c 16 (f := .cls "View") rfl) (fact_at c 26 (f := .meth "View" "open_rows") rfl) (fun F => F.binds fun _ _ _ _ _ _ us hl => match us, hl with | [_], _ => rfl)
    View_done := mat_of c 95 (fact_at c 16 (f := .cls "View") rfl) (fact_at c 27 (f := .meth "View" "done") rfl) (fun F => F.binds fun _ _ _ _ _ _ us hl => match us, hl with | [_, _], _ => rfl)
    View_len := sat_of c 96 p8 (fun F => F.binds fun _ _ _ _ _ _ us hl => match us, hl with | [_], _ => rfl)
    View_table := pat_of c 97 (fact_at c 16 (f := .cls "View") rfl) p0 (fun F => F.binds fun _ _ _ _ _ _ us hl => match us, hl with | [_], _ => rfl)
    View_sorting := pat_of c 98 (fact_at c 16 (f := .cls "View") rfl) p1 (fun F => F.binds fun _ _ _ _ _ _ us hl => match us, hl with | [_], _ => rfl)
    View_filters := pat_of c 99 (fact_at c 16 (f := .cls "View") rfl) p2 (fun F => F.binds fun _ _ _ _ _ _ us hl => match us, hl with | [_], _ => rfl)
    View_folds := pat_of c 100 (fact_at c 16 (f := .cls "View") rfl) p3 (fun F => F.binds fun _ _ _ _ _ _ us hl => match us, hl with | [_], _ => rfl)
    cls_House := He.cls_ok (fact_at c 28 (f := .cls "House") rfl)
    no_House_own_places := He.noat_ok (fact_at c 30 (f := .noat "House" "own_places") rfl)
    House_init := iat_of c X G 101 (fact_at c 144 (f := .glo "House") rfl) (fact_at c 29 (f := .mkr "House") rfl) (fun F => F.binds fun _ _ _ _ _ _ us hl => match us, hl with | [_, _], _ => rfl)
    House_require_place := mat_of c 102 (fact_at c 28 (f := .cls "House") rfl) (fact_at c 31 (f := .meth "House" "require_place") rfl) (fun F => F.binds fun _ _ _ _ _ _ us hl => match us, hl with | [_, _], _ => rfl)
    House_getitem := sat_of c 103 p9 (fun F => F.binds fun _ _ _ _ _ _ us hl => match us, hl with | [_, _], _ => rfl)
    House_names := pat_of c 104 (fact_at c 28 (f := .cls "House") rfl) p4 (fun F => F.binds fun _ _ _ _ _ _ us hl => match us, hl with | [_], _ => rfl)
    cls_Spot := He.cls_ok (fact_at c 32 (f := .cls "Spot") rfl)
    no_Spot_look := He.noat_ok (fact_at c 34 (f := .noat "Spot" "look") rfl)
    no_Spot_chosen := He.noat_ok (fact_at c 35 (f := .noat "Spot" "chosen") rfl)
    no_Spot_origin := He.noat_ok (fact_at c 36 (f := .noat "Spot" "origin") rfl)
    no_Spot_top := He.noat_ok (fact_at c 37 (f := .noat "Spot" "top") rfl)
    Spot_init := iat_of c X G 105 (fact_at c 145 (f := .glo "Spot") rfl) (fact_at c 33 (f := .mkr "Spot") rfl) (fun F => F.binds fun _ _ _ _ _ _ us hl => match us, hl with | [_, _, _, _, _], _ => rfl)
    cls_Moment := He.cls_ok (fact_at c 38 (f := .cls "Moment") rfl)
    no_Moment_path := He.noat_ok (fact_at c 40 (f := .noat "Moment" "path") rfl)
    no_Moment_spots := He.noat_ok (fact_at c 41 (f := .noat "Moment" "spots") rfl)
    no_Moment_page := He.noat_ok (fact_at c 42 (f := .noat "Moment" "page") rfl)
    Moment_init := iat_of c X G 106 (fact_at c 146 (f := .glo "Moment") rfl) (fact_at c 39 (f := .mkr "Moment") rfl) (fun F => F.binds fun _ _ _ _ _ _ us hl => match us, hl with | [_, _, _, _], _ => rfl)
    Moment_last := mat_of c 107 (fact_at c 38 (f := .cls "Moment") rfl) (fact_at c 43 (f := .meth "Moment" "last") rfl) (fun F => F.binds fun _ _ _ _ _ _ us hl => match us, hl with | [_], _ => rfl)
    Moment_spot := mat_of c 108 (fact_at c 38 (f := .cls "Moment") rfl) (fact_at c 44 (f := .meth "Moment" "spot") rfl) (fun F => F.binds fun _ _ _ _ _ _ us hl => match us, hl with | [_], _ => rfl)
    Moment_with_spot := mat_of c 109 (fact_at c 38 (f := .cls "Moment") rfl) (fact_at c 45 (f := .meth "Moment" "with_spot") rfl) (fun F => F.binds fun _ _ _ _ _ _ us hl => match us, hl with | [_, _], _ => rfl)
    cls_Table := He.cls_ok (fact_at c 46 (f := .cls "Table") rfl)
    no_Table_wide := He.noat_ok (fact_at c 48 (f := .noat "Table" "wide") rfl)
    no_Table_cell_rows := He.noat_ok (fact_at c 49 (f := .noat "Table" "cell_rows") rfl)
    Table_init := iat_of c X G 110 (fact_at c 147 (f := .glo "Table") rfl) (fact_at c 47 (f := .mkr "Table") rfl) (fun F => F.binds fun _ _ _ _ _ _ us hl => match us, hl with | [_, _, _], _ => rfl)
    Table_cell := mat_of c 111 (fact_at c 46 (f := .cls "Table") rfl) (fact_at c 50 (f := .meth "Table" "cell") rfl) (fun F => F.binds fun _ _ _ _ _ _ us hl => match us, hl with | [_, _, _], _ => rfl)
    Table_len := sat_of c 112 p7 (fun F => F.binds fun _ _ _ _ _ _ us hl => match us, hl with | [_], _ => rfl)
    Table_width := pat_of c 113 (fact_at c 46 (f := .cls "Table") rfl) p5 (fun F => F.binds fun _ _ _ _ _ _ us hl => match us, hl with | [_], _ => rfl)
    Table_rows := pat_of c 114 (fact_at c 46 (f := .cls "Table") rfl) p6 (fun F => F.binds fun _ _ _ _ _ _ us hl => match us, hl with | [_], _ => rfl)
    CLICK := ⟨He.str_ok X G (fact_at c 148 (f := .str "CLICK" "click") rfl)⟩
    RANGE := ⟨He.str_ok X G (fact_at c 149 (f := .str "RANGE" "range") rfl)⟩
    SORT := ⟨He.str_ok X G (fact_at c 150 (f := .str "SORT" "sort") rfl)⟩
    LETTERS := ⟨He.str_ok X G (fact_at c 151 (f := .str "LETTERS" "abcdefghijklmnopqrstuvwxyz") rfl)⟩
    MOST_LETTERS := ⟨He.int_ok X G (fact_at c 152 (f := .int "MOST_LETTERS" 8) rfl)⟩
    OPEN := ⟨_, He.glo_ok X G (fact_at c 155 (f := .glo "OPEN") rfl), fun F => He.tupB_ok kt F⟩
    PARTS := by
      obtain ⟨es, m, kdd⟩ := He.dicW_ok (c.tab _ (List.mem_singleton.mpr rfl))
      refine ⟨_, es, m, He.glo_ok X G (fact_at c 153 (f := .glo "PARTS") rfl), kdd, fun q hq => ?_⟩
      have hv : ∀ q ∈ ([("sort", .int 2), ("click", .int 2), ("range", .int 2)] : List (Str × He.Dv)), ∃ u, PySem.W.nsIn K (He.ga K "PARTS") q.1 = some (some u) ∧ RelV (q.2.v K) u := fun q hq => He.valsB_ok kv hq
      rcases List.mem_cons.mp hq with rfl | hq
      · exact hv ("sort", .int 2) List.mem_cons_self
      · rcases List.mem_cons.mp hq with rfl | hq
        · exact hv ("click", .int 2) (List.mem_cons_of_mem _ List.mem_cons_self)
        · rcases List.mem_cons.mp hq with rfl | hq
          · exact hv ("range", .int 2) (List.mem_cons_of_mem _ (List.mem_cons_of_mem _ List.mem_cons_self))
          · cases hq
    MARKING := ⟨_, He.glo_ok X G (fact_at c 154 (f := .glo "MARKING") rfl), fun F => He.lstB_ok kl F⟩
  }
end
end Hd
set_option Elab.async false
set_option linter.all false
set_option maxRecDepth 100000
set_option maxHeartbeats 4000000
/-! # the law holds -/
namespace Hd
open PySem PySem.Spec PyProof.Rows L2
theorem law_binds {K : PySem.W.Frag} {f : Addr} {fd : FuncData} (F : Fun K "law" "law" (Lw.topS 149) f fd) (s : Shared) (u : Value) : BindsTo s fd ⟨[u], []⟩ [("_law_script", u)] := by
  obtain ⟨oc, od, kV, doc, pm, an, cdv, ct, osl, rfl, lk, hin⟩ := F.ex
  exact .of_eq rfl
theorem facts {w : World} {h : Heap} {K : PySem.W.Frag} {mg : Str → Option Value} {fa' : Addr} (KX : K.In h) (c : Says fa fn ts tf ex w h K) (G : h.Ns mainGlobals mg) (hmg : mg "law" = some (.ref fa')) : LamX.LawAtS PySem.Challenge.rw_listwindow_k60_whole_distances_and_plans w K L2.CX0 17 63 "_law_script" mg fa' h := by
  obtain ⟨fd, F⟩ := def_at c 91 (d := dz "law" 149) rfl
  have e := hmg.symm.trans (He.glo_ok KX G (fact_at c 142 (f := .glo "law") rfl))
  cases e
  refine ⟨fd, tf.map (He.cT K), Lw.spL (TBk K) K, fun p hp => ?_, fun p hp => ?_, fun p hp => ?_, law_binds F, fun H a ns hl hbits hT hS => ⟨a, ns, rfl, hS, fun q hq => ?_, fun _ => rfl⟩, fun base X G tb => Lw.law_ok (fx_of c X G fun p hp => tb _ (List.mem_map_of_mem hp)) F⟩
  · obtain ⟨q, hq, rfl⟩ := List.mem_map.mp hp
    exact c.empty q hq
  · obtain ⟨q, hq, rfl⟩ := List.mem_map.mp hp
    exact c.out q hq
  · obtain ⟨q, hq, rfl⟩ := List.mem_map.mp hp
    exact PySem.W.codeHd_of_K KX (c.hd q hq)
  · unfold TBk at hq
    rcases List.mem_cons.mp hq with rfl | hq
    · exact LamX.TabS.nil (hT (He.cT K ("order_in", none)) (List.mem_map_of_mem (by unfold tf; simp)))
    · rcases List.mem_cons.mp hq with rfl | hq
      · exact LamX.TabS.nil (hT (He.cT K ("first_of", none)) (List.mem_map_of_mem (by unfold tf; simp)))
      · cases hq
end Hd
open PySem PySem.W PySem.Calls PyProof.Rows
set_option maxRecDepth 100000 in
set_option maxHeartbeats 0 in
theorem PySem.Challenge.cw_listwindow_k60_whole_distances_and_plans_holds : PySem.Challenge.rw_listwindow_k60_whole_distances_and_plans.Holds := by
  w_on; o_law
  refine HandSHeadRun.head_any (r := OpenLaw.row PySem.Challenge.rw_listwindow_k60_whole_distances_and_plans) (q := view (OpenLaw.row PySem.Challenge.rw_listwindow_k60_whole_distances_and_plans).prog [149]) (H := Hd.hk) (ob := Hd.ob) (M := 10000) (loose := Hd.loose) (d := HandSHeadRun.topDef (OpenLaw.row PySem.Challenge.rw_listwindow_k60_whole_distances_and_plans).prog 149) (kwd := []) Hd.ob_eq
    (by kernel_rfl) (fun s => by kernel_rfl) Hd.run (by kernel_rfl) (by kernel_rfl) (by kernel_rfl) (by rfl) (by first | assumption | decide +kernel) (by decide +kernel) ⟨rfl, rfl, rfl, rfl, rfl, by decide +kernel⟩ ?hw ?hc
  case hw => w_witness2
  case hc =>
    refine LamX.walk_ofTsE (l := PySem.Challenge.rw_listwindow_k60_whole_distances_and_plans) (n := 63) (k := 17) (x := "_law_script") (CX := fun _ => L2.CX0) rfl (by decide) (by kernel_rfl) ⟨rfl, by decide, by decide⟩ ?F (fun _ _ _ _ _ z => z)
    intro w mg fa h Y G hmg0
    obtain ⟨K, KX, c⟩ := Y
    have hmg : mg ("law" : PySem.Str) = some (.ref fa) := by
      have e : (HandSHeadRun.topDef (OpenLaw.row PySem.Challenge.rw_listwindow_k60_whole_distances_and_plans).prog 149).name = ("law" : PySem.Str) := by kernel_rfl
      rw [← e]
      exact hmg0
    exact ⟨K, KX, Hd.facts KX c G hmg⟩
