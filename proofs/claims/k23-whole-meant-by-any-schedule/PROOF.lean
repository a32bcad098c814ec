import PyProof.Rows.All
import Wide.All
import OpenK.AllK
import Wide.FinOn
import KE.KStateDown
import HandS.ForMost
import HandS.Words
import HandS.Defaults
import HandS.Property
import HandS.ClsMeth
import HandS.Head0
import HandS.Head1
import HandS.Head2
import HandS.HeadEnd
import HandS.HeadHook1
import HandS.HeadHook2
import HandS.HeadHook3
import HandS.HeadHook4
import PySem.Challenge.RW_flowyard_k23_whole_meant_by_any_schedule
import HandS.Codes
import HandS.Walk
import KE.GoesEnum
import KE.KDictZip
import KE.KDictItemsList
import HandS.ListItems
import HandS.IsInst
import HandS.WideBits
import PyProof.ReprRoads
import PyProof.ReprText
import HandS.More
import PyProof.NoPylong
import HandS.Star
import HandS.IntHex
import HandS.Text
import HandS.List
import KE.DataCmp
import HandS.TupAny
import HandS.Zip
import HandS.Dict
import HandS.SortInts
import HandS.TupMul
import HandS.OwnEq
import HandS.Deep
import HandS.TupSets
import HandS.NamedTupGet
import HandS.DictComp
import HandS.DictTup
import KE.GoesMore
import KE.KDictCopyH
import HandS.Style
set_option Elab.async false
set_option linter.all false
set_option maxRecDepth 100000
set_option maxHeartbeats 0
/-! own head: a short list of addresses is looked at; the law's texts print the lists -/
namespace FYH
open PySem PySem.Spec PyProof.Rows L2
def refs1 (g : Addr → Option Obj) (a : Addr) : List Addr := match g a with
  | some o => He.refsO o
  | none => []
def lv (g : Addr → Option Obj) (as : List Addr) : List Addr := as.flatMap (refs1 g)
def gaN (g : Addr → Option Obj) (xs : List Str) : List Addr := xs.map (He.ga (He.frG g [mainGlobals]))
/-- the addresses that are looked at: defs, classes, tables by their names -/
def asN (ds cs tp : List Str) (g : Addr → Option Obj) : List Addr :=
  mainGlobals :: cStatics :: (gaN g ds ++ (lv g (gaN g ds) ++ (gaN g cs ++ (lv g (gaN g cs) ++ (lv g (lv g (gaN g cs)) ++ (lv g (lv g (lv g (gaN g cs))) ++ (lv g (lv g (lv g (lv g (gaN g cs)))) ++ (gaN g tp ++ lv g (gaN g tp)))))))))
/-! ### a def at an address -/
def fAt (K : PySem.W.Frag) (a : Addr) : He.FnW := match K.lookup a with
  | some o => (match o.data with
    | .func d => some (d.name, d.qualname, d.params, d.body, d.scope, d.globals, d.closure, d.builtins)
    | _ => none)
  | none => none
def fOk (K : PySem.W.Frag) (a : Addr) (q : Str) : Bool := PySem.W.keepIn K (.ref a) && match K.lookup a with
  | some o => (match o.data with
    | .func d => PySem.W.codeIn K d.code q && (match d.defaults with | .none => true | _ => false)
    | _ => false)
  | none => false
theorem fAt_fun {K : PySem.W.Frag} {a : Addr} {x q : Str} {st : Stmt} (e : fAt K a = some (x, q, defArgs st, .stmts (defBody st), defScope st, mainGlobals, [], builtinsNs)) (c : fOk K a q = true) : ∃ fd, Fun K x q st a fd := by
  obtain ⟨kp, c2⟩ := He.ba c
  unfold fAt at e
  cases h : K.lookup a with
  | none => rw [h] at e; cases e
  | some o =>
    rw [h] at c2 e
    obtain ⟨c1, c0, dt, sl⟩ := o
    cases dt with
    | func d =>
      obtain ⟨z1, z2, z3, z4, z5, z6, z7, z8, z9, z10, z11, z12, z13, z14, z15⟩ := d
      have e' : (some (z1, z2, z3, z4, z5, z6, z7, z15) : He.FnW) = _ := e
      have e'' := Option.some.inj e'
      simp only [Prod.mk.injEq] at e''
      obtain ⟨rfl, rfl, rfl, rfl, rfl, rfl, rfl, rfl⟩ := e''
      cases z8 with
      | none => exact ⟨_, ⟨c1, c0, z9, z10, z11, z12, z13, z14, sl, rfl, h, (He.ba (show (PySem.W.codeIn K z13 z2 && true) = true from c2)).1⟩, kp⟩
      | _ => exact Bool.noConfusion (He.ba (show (PySem.W.codeIn K z13 z2 && false) = true from c2)).2
    | _ => cases e
theorem fun_ofD {K : PySem.W.Frag} {x q : Str} {st : Stmt} {f : Addr} {fd : FuncData} (F : FunD K x q (defArgs st) (defBody st) (defScope st) [] [] f fd) : Fun K x q st f fd := by
  obtain ⟨oc, od, dV, kV, doc, pm, an, cdv, ct, osl, e, lk, hcd, hD, _⟩ := F.ex
  rcases hD with ⟨_, z⟩ | ⟨z, _⟩
  · subst z
    exact ⟨⟨oc, od, kV, doc, pm, an, cdv, ct, osl, e, lk, hcd⟩, F.kp⟩
  · exact absurd rfl z
/-- a def with defaults, all parameters given -/
theorem bindsF {K : PySem.W.Frag} {x q : Str} {pa : Arguments} {bo : List Stmt} {sc : Scope} {dvs : List V} {f : Addr} {fd : FuncData} {ps : List Str} (F : FunD K x q pa bo sc dvs [] f fd) (hd : dvs ≠ [])
    (h : ∀ (T : Addr) (kV doc pm : Value) (an : Option Addr) (cdv ct : Value) (us its : List Value), us.length = ps.length → its.length = dvs.length → ∃ k, bindArgs (PySem.W.fnOf x q pa bo sc (.ref T) kV doc pm an cdv ct) ⟨us, []⟩ = seqItems? (.ref T) >>= k ∧ k (some its.toArray) = pure (ps.zip (us ++ its.drop dvs.length))) : Binds K fd ps [] := by
  obtain ⟨ds, hv, hb⟩ := F.binds1 (ps := ps) ps.length dvs.length hd (by omega) h
  rw [List.drop_length] at hv
  cases hv
  exact hb
/-! ### properties -/
def prA (K : PySem.W.Frag) (c p : Str) : Addr := match PySem.W.recIn K (He.ma K (He.ga K c) p) "property" with
  | some (.ref g :: _) => g
  | _ => 0
def prB (K : PySem.W.Frag) (c p : Str) : Bool := He.eqO (PySem.W.findIn K (.ref (He.ga K c)) p) (some (some (.ref (He.ma K (He.ga K c) p)))) && (He.eqO (PySem.W.specialIn K (.ref (He.ma K (He.ga K c) p)) "__get__") (some (some (.builtin "property.__get__"))) && (decide (PySem.W.takesIn K (.ref (He.ma K (He.ga K c) p)) = some true) && match PySem.W.recIn K (He.ma K (He.ga K c) p) "property" with
  | some (.ref _ :: _) => true
  | _ => false))
theorem prB_ok {K : PySem.W.Frag} {c p : Str} (h : prB K c p = true) : PropOf K (He.ga K c) p (He.ma K (He.ga K c) p) (prA K c p) := by
  obtain ⟨h1, h⟩ := He.ba h
  obtain ⟨h2, h⟩ := He.ba h
  obtain ⟨h3, h4⟩ := He.ba h
  refine ⟨He.eqO_ok h1, He.eqO_ok h2, of_decide_eq_true h3, ?_⟩
  unfold prA
  cases e : PySem.W.recIn K (He.ma K (He.ga K c) p) "property" with
  | none => rw [e] at h4; cases h4
  | some l =>
    rw [e] at h4
    match l, h4 with
    | .ref g :: r, _ => exact ⟨r, rfl⟩
/-! ### tuples -/
def tupA (K : PySem.W.Frag) (a : Addr) (vs : List He.Dv) : Bool := match K.lookup a with
  | some o => (match o.data with
    | .seq its _ => decide (o.cls = .type "tuple") && (decide (its.size ≤ sizeLine) && He.relAll (vs.map (He.Dv.v K)) its.toList)
    | _ => false)
  | none => false
theorem tupA_ok {K : PySem.W.Frag} {a : Addr} {vs : List He.Dv} (h : tupA K a vs = true) (H : Hp) : SqT K H a (vs.map (He.Dv.v K)) := by
  unfold tupA at h
  cases q : K.lookup a with
  | none => rw [q] at h; cases h
  | some o =>
    rw [q] at h
    cases e : o.data with
    | seq its n =>
      simp only [e] at h
      obtain ⟨h1, h2⟩ := He.ba h
      obtain ⟨h3, h4⟩ := He.ba h2
      exact .inr ⟨o, its, n, q, of_decide_eq_true h1, e, of_decide_eq_true h3, He.relAll_ok h4⟩
    | _ => simp only [e] at h; cases h
/-- the value of a written dict at a key, an object -/
def kvA (K : PySem.W.Frag) (d : Addr) (k : Str) : Addr := match PySem.W.nsIn K d k with
  | some (some (.ref a)) => a
  | _ => 0
def kvB (K : PySem.W.Frag) (d : Addr) (k : Str) : Bool := He.eqO (PySem.W.nsIn K d k) (some (some (.ref (kvA K d k))))
/-! ### classes -/
def isaB (K : PySem.W.Frag) (C : Addr) : Bool := He.eqO (PySem.W.findIn K (.ref C) "__class__") (some (some (.builtin "object.__class__"))) && (He.eqO (PySem.W.specialIn K (.builtin "object.__class__") "__get__") (some (some (.builtin "getset_descriptor.__get__"))) && (decide (PySem.W.takesIn K (.builtin "object.__class__") = some true) && decide (PySem.W.mroIn K C (.type "object") = some true)))
def creB (K : PySem.W.Frag) (C : Addr) : Bool := PySem.W.readsIn K C (.type "type") && He.eqO (PySem.W.specialIn K (.ref C) "__getattribute__") (some (some (.builtin "type.__getattribute__")))
theorem creB_ok {K : PySem.W.Frag} {C : Addr} (h : creB K C = true) : ClX.CRead K C (.type "type") := ⟨(He.ba h).1, He.eqO_ok (He.ba h).2⟩
def cvB (K : PySem.W.Frag) (C : Addr) (f : Str) (v : V) : Bool := match PySem.W.findCls K (.ref C) (.type "type") f with
  | some (.val u) => He.relB v u
  | _ => false
theorem cvB_ok {K : PySem.W.Frag} {C : Addr} {f : Str} {v : V} (h : cvB K C f v = true) : ∃ u, ClX.CVal K C (.type "type") f v u := by
  unfold cvB at h
  cases e : PySem.W.findCls K (.ref C) (.type "type") f with
  | none => rw [e] at h; cases h
  | some x =>
    rw [e] at h
    cases x with
    | val u => exact ⟨u, e, He.relB_ok h⟩
    | _ => cases h
/-! ### the Hook -/
abbrev AlN : Type := (He.AlT × List He.FnW) × Bool
/-- a property's getter: class, name, its text -/
abbrev PrD : Type := Str × Str × Str × Stmt
def prV (d : PrD) : He.FnW := some (d.2.1, d.2.2.1, defArgs d.2.2.2, .stmts (defBody d.2.2.2), defScope d.2.2.2, mainGlobals, [], builtinsNs)
def prAll (pr : List PrD) (K : PySem.W.Frag) : Bool := pr.all fun d => prB K d.1 d.2.1 && fOk K (prA K d.1 d.2.1) d.2.2.1
structure Hd where
  ds : List Str
  cs : List Str
  tp : List Str
  fa : List He.Fa
  fn : List He.DefD
  ts : List He.Tab
  pr : List PrD
  ex : PySem.W.Frag → Bool
def Hd.obK (h : Hd) (K : PySem.W.Frag) : AlN := ((He.obsT h.fa h.fn h.ts K, h.pr.map fun d => fAt K (prA K d.1 d.2.1)), h.ex K && prAll h.pr K)
def Hd.obG (h : Hd) (g : Addr → Option Obj) : AlN := h.obK (He.frG g (asN h.ds h.cs h.tp g))
def Hd.val (h : Hd) (w : World) : AlN := ((He.valT h.fn h.ts w, h.pr.map prV), true)
def Hd.Says (h : Hd) (w : World) (K : PySem.W.Frag) : Prop := h.obK K = h.val w
def Hd.hk (h : Hd) : PySem.W.Hook where
  α := AlN
  obs := fun s => h.obG s.heap.get?
  val := fun w => h.val w
  says := fun w hp => ∃ K : PySem.W.Frag, K.In hp ∧ h.Says w K
  of := fun _ _ e => ⟨_, He.frG_in, e⟩
  keeps := fun _ _ _ ⟨K, hK, c⟩ k => ⟨K, PySem.W.Frag.In.keeps hK k, c⟩
def Hd.ob (h : Hd) (s : PySem.W.SharedT) : AlN := h.obG (HandSHeadRun.getT s)
theorem Hd.ob_eq (h : Hd) (s : PySem.W.SharedT) : h.ob s = h.hk.obs s.abs := by
  have e : HandSHeadRun.getT s = s.abs.heap.get? := funext (HandSHeadRun.getT_eq s)
  unfold Hd.ob
  rw [e]
  rfl
section
variable {h : Hd} {w : World} {K : PySem.W.Frag}
theorem Hd.Says.t (c : h.Says w K) : He.SaysT h.fa h.fn h.ts w K := congrArg (fun z : AlN => z.1.1) c
theorem Hd.Says.ex (c : h.Says w K) : h.ex K = true := (He.ba (show (h.ex K && prAll h.pr K) = true from congrArg (fun z : AlN => z.2) c)).1
theorem Hd.Says.prop (c : h.Says w K) {d : PrD} (hd : d ∈ h.pr) : ∃ fd, PropOf K (He.ga K d.1) d.2.1 (He.ma K (He.ga K d.1) d.2.1) (prA K d.1 d.2.1) ∧ Fun K d.2.1 d.2.2.1 d.2.2.2 (prA K d.1 d.2.1) fd := by
  have c2 := (He.ba (show (h.ex K && prAll h.pr K) = true from congrArg (fun z : AlN => z.2) c)).2
  obtain ⟨p1, p2⟩ := He.ba (List.all_eq_true.mp c2 d hd)
  have e : h.pr.map (fun d => fAt K (prA K d.1 d.2.1)) = h.pr.map prV := congrArg (fun z : AlN => z.1.2) c
  obtain ⟨i, hi⟩ := List.mem_iff_getElem?.mp hd
  have e2 : (h.pr.map fun d => fAt K (prA K d.1 d.2.1))[i]? = (h.pr.map prV)[i]? := by rw [e]
  rw [List.getElem?_map, List.getElem?_map, hi] at e2
  obtain ⟨fd, F⟩ := fAt_fun (Option.some.inj e2) p2
  exact ⟨fd, prB_ok p1, F⟩
end
/-- the run's equation from its parts -/
theorem join3 {α β γ δ : Type} {o : Option α} {f : α → β} {g : α → γ} {k : α → δ} {x : β} {y : γ} {z : δ} (h1 : o.map f = some x) (h2 : o.map g = some y) (h3 : o.map k = some z) : o.map (fun s => (f s, g s, k s)) = some (x, y, z) := by
  cases o with
  | none => cases h1
  | some a =>
    cases h1
    cases h2
    cases h3
    rfl
end FYH

set_option Elab.async false
set_option linter.all false
set_option maxRecDepth 100000
set_option maxHeartbeats 0
namespace FYH
open PySem PySem.Spec PyProof.Rows L2
def top (i : Nat) : Stmt := PySem.Challenge.pw_flowyard_k23_whole_meant_by_any_schedule.main.body.getD i (.Pass ⟨0, 0, 0, 0⟩)
def nms0 : List Str := ["_wall", "__name__", "FlowError", "InvalidIns", "InvalidOuts", "InvalidBegin", "InvalidStation", "InvalidStanding", "InvalidStream", "InvalidState", "InvalidSizes", "InvalidText", "InvalidTerm", "InvalidStandings", "InvalidStations"]
def nms1 : List Str := ["InvalidPipes", "InvalidRun", "StateError", "CannotBeDone", "LimitError", "TooMany", "SIGNS", "is_integer", "is_count", "is_below", "is_sign", "is_text", "is_list", "is_text_of", "MOST_STANDINGS"]
def nms2 : List Str := ["MOST_GIVEN", "MOST_TICKS", "MOST_CONTENT", "LINES", "is_row", "are_read", "is_standing_told", "place_of", "Station", "want_standing", "want_stations", "is_pipe", "want_pipes", "free_lines", "is_begin"]
def nms3 : List Str := ["Yard", "want_station", "MOST_STREAM", "MOST_BEATS", "MOST_SIZE", "want_stream", "are_sizes", "want_sizes", "is_state", "want_state", "begun", "text_at", "beat_row", "has_room", "is_possible"]
def nms4 : List Str := ["possible", "after_beat", "begin_of", "can_be_done", "done", "fault_of", "behind_run", "state_behind", "is_full", "finished", "full_run", "end", "flows", "MOST_NODES", "MOST_SIGNS"]
def nms5 : List Str := ["IN", "LATE", "BY", "KEEP", "THEN", "OF_ONE", "OF_TWO", "parts_of", "has_shape", "is_term", "want_term", "half_of", "changes_of", "counts_of", "turned"]
def nms6 : List Str := ["of_one", "of_two", "flow_by", "flow_of", "TWOS", "row", "one_way", "late_rows", "rows_of", "kept", "station_of", "outer_ins", "Draft", "compiled", "_law_pot"]
def nms7 : List Str := ["_law_draw", "_law_pick", "_law_term", "_law_single", "_law_flow", "_law_stream", "_law_led", "_law_right"]
def nms : List Str := nms0 ++ nms1 ++ nms2 ++ nms3 ++ nms4 ++ nms5 ++ nms6 ++ nms7
def dsN0 : List Str := ["is_sign", "is_text", "is_text_of", "want_stream", "parts_of", "has_shape", "is_term", "want_term", "half_of", "turned", "changes_of", "counts_of", "of_one", "of_two", "flow_by"]
def dsN1 : List Str := ["flow_of", "_law_single", "_law_flow", "_law_draw", "_law_pick", "_law_pot", "_law_term", "_law_stream", "is_integer", "is_count", "is_below", "is_list", "is_row", "are_read", "is_standing_told"]
def dsN2 : List Str := ["row", "kept", "one_way", "rows_of", "late_rows", "station_of", "outer_ins", "want_stations", "is_pipe", "want_pipes", "free_lines", "compiled", "text_at", "place_of", "begun"]
def dsN3 : List Str := ["beat_row", "has_room", "is_possible", "possible", "after_beat", "want_station", "are_sizes", "want_sizes", "is_state", "want_state", "begin_of", "can_be_done", "done", "fault_of", "behind_run"]
def dsN4 : List Str := ["state_behind", "is_full", "finished", "full_run", "end", "flows", "_law_led", "_law_right", "is_begin", "law"]
def dsN : List Str := dsN0 ++ dsN1 ++ dsN2 ++ dsN3 ++ dsN4
def csN0 : List Str := ["Station", "Draft", "Yard"]
def csN : List Str := csN0
def tpN0 : List Str := ["SIGNS", "OF_ONE", "OF_TWO", "TWOS", "LINES"]
def tpN : List Str := tpN0
def fa0 : List He.Fa := [.glo "is_sign", .glo "is_text", .glo "is_text_of", .glo "want_stream", .glo "parts_of", .glo "has_shape", .glo "is_term", .glo "want_term", .glo "half_of", .glo "turned", .glo "changes_of", .glo "counts_of", .glo "of_one", .glo "of_two", .glo "flow_by"]
def fa1 : List He.Fa := [.glo "flow_of", .glo "_law_single", .glo "_law_flow", .glo "_law_draw", .glo "_law_pick", .glo "_law_pot", .glo "_law_term", .glo "_law_stream", .glo "is_integer", .glo "is_count", .glo "is_below", .glo "is_list", .glo "is_row", .glo "are_read", .glo "is_standing_told"]
def fa2 : List He.Fa := [.mkr "Station", .glo "row", .glo "kept", .glo "one_way", .glo "rows_of", .glo "late_rows", .glo "station_of", .glo "outer_ins", .mkr "Draft", .meth "Draft" "add", .meth "Draft" "copies", .meth "Draft" "part", .glo "want_stations", .glo "is_pipe", .glo "want_pipes"]
def fa3 : List He.Fa := [.glo "free_lines", .mkr "Yard", .meth "Yard" "__len__", .meth "Draft" "made", .glo "compiled", .glo "text_at", .glo "place_of", .glo "begun", .glo "beat_row", .glo "has_room", .glo "is_possible", .glo "possible", .glo "after_beat", .glo "want_station", .glo "are_sizes"]
def fa4 : List He.Fa := [.glo "want_sizes", .meth "Station" "__len__", .glo "is_state", .glo "want_state", .glo "begin_of", .glo "can_be_done", .glo "done", .glo "fault_of", .glo "behind_run", .glo "state_behind", .glo "is_full", .glo "finished", .glo "full_run", .glo "end", .glo "flows"]
def fa5 : List He.Fa := [.glo "_law_led", .glo "_law_right", .glo "is_begin", .glo "law", .meth "Draft" "whole", .glo "Station", .cls "Station", .glo "Draft", .cls "Draft", .glo "Yard", .cls "Yard", .noat "Station" "own_ins", .noat "Station" "own_outs", .noat "Station" "own_standings", .noat "Draft" "own_stations"]
def fa6 : List He.Fa := [.noat "Draft" "own_pipes", .noat "Yard" "own_stations", .noat "Yard" "own_pipes", .noat "Yard" "own_exits", .noat "Yard" "own_begin", .noat "Yard" "own_into", .noat "Yard" "own_onto", .free "len", .free "isinstance", .free "all", .free "sum", .free "abs", .free "max", .free "min", .free "divmod"]
def fa7 : List He.Fa := [.free "repr", .free "int", .free "str", .free "tuple", .free "list", .free "zip", .free "range", .free "bool", .free "enumerate", .free "sorted", .int "MOST_STANDINGS" 4, .int "MOST_GIVEN" 2, .int "MOST_TICKS" 9, .int "MOST_SIZE" 3, .int "MOST_NODES" 9]
def fa8 : List He.Fa := [.int "MOST_SIGNS" 8000, .int "MOST_STREAM" 1000, .str "IN" "in", .str "LATE" "late", .str "BY" "by", .str "KEEP" "keep", .str "THEN" "then", .glo "SIGNS", .glo "OF_ONE", .glo "OF_TWO", .glo "TWOS", .glo "LINES"]
def fa : List He.Fa := fa0 ++ fa1 ++ fa2 ++ fa3 ++ fa4 ++ fa5 ++ fa6 ++ fa7 ++ fa8
def fn0 : List He.DefD := [⟨("is_sign", none), "is_sign", "is_sign", defArgs (top 26), defBody (top 26), defScope (top 26), [], []⟩, ⟨("is_text", none), "is_text", "is_text", defArgs (top 27), defBody (top 27), defScope (top 27), [], []⟩, ⟨("is_text_of", none), "is_text_of", "is_text_of", defArgs (top 29), defBody (top 29), defScope (top 29), [], []⟩, ⟨("want_stream", none), "want_stream", "want_stream", defArgs (top 53), defBody (top 53), defScope (top 53), [], []⟩, ⟨("parts_of", none), "parts_of", "parts_of", defArgs (top 86), defBody (top 86), defScope (top 86), [], []⟩, ⟨("has_shape", none), "has_shape", "has_shape", defArgs (top 87), defBody (top 87), defScope (top 87), [], []⟩]
def fn1 : List He.DefD := [⟨("is_term", none), "is_term", "is_term", defArgs (top 88), defBody (top 88), defScope (top 88), [], []⟩, ⟨("want_term", none), "want_term", "want_term", defArgs (top 89), defBody (top 89), defScope (top 89), [], []⟩, ⟨("half_of", none), "half_of", "half_of", defArgs (top 90), defBody (top 90), defScope (top 90), [], []⟩, ⟨("turned", none), "turned", "turned", defArgs (top 93), defBody (top 93), defScope (top 93), [], []⟩, ⟨("changes_of", none), "changes_of", "changes_of", defArgs (top 91), defBody (top 91), defScope (top 91), [], []⟩, ⟨("counts_of", none), "counts_of", "counts_of", defArgs (top 92), defBody (top 92), defScope (top 92), [], []⟩]
def fn2 : List He.DefD := [⟨("of_one", none), "of_one", "of_one", defArgs (top 94), defBody (top 94), defScope (top 94), [], []⟩, ⟨("of_two", none), "of_two", "of_two", defArgs (top 95), defBody (top 95), defScope (top 95), [], []⟩, ⟨("flow_by", none), "flow_by", "flow_by", defArgs (top 96), defBody (top 96), defScope (top 96), [], []⟩, ⟨("flow_of", none), "flow_of", "flow_of", defArgs (top 97), defBody (top 97), defScope (top 97), [], []⟩, ⟨("_law_single", none), "_law_single", "_law_single", defArgs (top 114), defBody (top 114), defScope (top 114), [], []⟩, ⟨("_law_flow", none), "_law_flow", "_law_flow", defArgs (top 115), defBody (top 115), defScope (top 115), [], []⟩]
def fn3 : List He.DefD := [⟨("_law_draw", none), "_law_draw", "_law_draw", defArgs (top 111), defBody (top 111), defScope (top 111), [], []⟩, ⟨("_law_pick", none), "_law_pick", "_law_pick", defArgs (top 112), defBody (top 112), defScope (top 112), [], []⟩, ⟨("_law_pot", none), "_law_pot", "_law_pot", defArgs (top 110), defBody (top 110), defScope (top 110), [], []⟩, ⟨("_law_term", none), "_law_term", "_law_term", defArgs (top 113), defBody (top 113), defScope (top 113), [], []⟩, ⟨("_law_stream", none), "_law_stream", "_law_stream", defArgs (top 116), defBody (top 116), defScope (top 116), [], []⟩, ⟨("is_integer", none), "is_integer", "is_integer", defArgs (top 23), defBody (top 23), defScope (top 23), [], []⟩]
def fn4 : List He.DefD := [⟨("is_count", none), "is_count", "is_count", defArgs (top 24), defBody (top 24), defScope (top 24), [], []⟩, ⟨("is_below", none), "is_below", "is_below", defArgs (top 25), defBody (top 25), defScope (top 25), [], []⟩, ⟨("is_list", none), "is_list", "is_list", defArgs (top 28), defBody (top 28), defScope (top 28), [], []⟩, ⟨("is_row", none), "is_row", "is_row", defArgs (top 36), defBody (top 36), defScope (top 36), [], []⟩, ⟨("are_read", none), "are_read", "are_read", defArgs (top 37), defBody (top 37), defScope (top 37), [], []⟩, ⟨("is_standing_told", none), "is_standing_told", "is_standing_told", defArgs (top 38), defBody (top 38), defScope (top 38), [], []⟩]
def fn5 : List He.DefD := [⟨("Station", some "__init__"), "__init__", "Station.__init__", defArgs (inClass (top 40) 0), defBody (inClass (top 40) 0), defScope (inClass (top 40) 0), [], []⟩, ⟨("row", none), "row", "row", defArgs (top 100), defBody (top 100), defScope (top 100), [], []⟩, ⟨("kept", none), "kept", "kept", defArgs (top 104), defBody (top 104), defScope (top 104), [], []⟩, ⟨("one_way", none), "one_way", "one_way", defArgs (top 101), defBody (top 101), defScope (top 101), [], []⟩, ⟨("rows_of", none), "rows_of", "rows_of", defArgs (top 103), defBody (top 103), defScope (top 103), [], []⟩, ⟨("late_rows", none), "late_rows", "late_rows", defArgs (top 102), defBody (top 102), defScope (top 102), [], []⟩]
def fn6 : List He.DefD := [⟨("station_of", none), "station_of", "station_of", defArgs (top 105), defBody (top 105), defScope (top 105), [], []⟩, ⟨("outer_ins", none), "outer_ins", "outer_ins", defArgs (top 106), defBody (top 106), defScope (top 106), [], []⟩, ⟨("Draft", some "__init__"), "__init__", "Draft.__init__", defArgs (inClass (top 107) 0), defBody (inClass (top 107) 0), defScope (inClass (top 107) 0), [], []⟩, ⟨("Draft", some "add"), "add", "Draft.add", defArgs (inClass (top 107) 1), defBody (inClass (top 107) 1), defScope (inClass (top 107) 1), [], []⟩, ⟨("Draft", some "copies"), "copies", "Draft.copies", defArgs (inClass (top 107) 2), defBody (inClass (top 107) 2), defScope (inClass (top 107) 2), [], []⟩, ⟨("Draft", some "part"), "part", "Draft.part", defArgs (inClass (top 107) 4), defBody (inClass (top 107) 4), defScope (inClass (top 107) 4), [], []⟩]
def fn7 : List He.DefD := [⟨("want_stations", none), "want_stations", "want_stations", defArgs (top 42), defBody (top 42), defScope (top 42), [], []⟩, ⟨("is_pipe", none), "is_pipe", "is_pipe", defArgs (top 43), defBody (top 43), defScope (top 43), [], []⟩, ⟨("want_pipes", none), "want_pipes", "want_pipes", defArgs (top 44), defBody (top 44), defScope (top 44), [], []⟩, ⟨("free_lines", none), "free_lines", "free_lines", defArgs (top 45), defBody (top 45), defScope (top 45), [], []⟩, ⟨("Yard", some "__init__"), "__init__", "Yard.__init__", defArgs (inClass (top 47) 2), defBody (inClass (top 47) 2), defScope (inClass (top 47) 2), [.non], []⟩, ⟨("Yard", some "__len__"), "__len__", "Yard.__len__", defArgs (inClass (top 47) 8), defBody (inClass (top 47) 8), defScope (inClass (top 47) 8), [], []⟩]
def fn8 : List He.DefD := [⟨("Draft", some "made"), "made", "Draft.made", defArgs (inClass (top 107) 5), defBody (inClass (top 107) 5), defScope (inClass (top 107) 5), [], []⟩, ⟨("compiled", none), "compiled", "compiled", defArgs (top 108), defBody (top 108), defScope (top 108), [], []⟩, ⟨("text_at", none), "text_at", "text_at", defArgs (top 59), defBody (top 59), defScope (top 59), [], []⟩, ⟨("place_of", none), "place_of", "place_of", defArgs (top 39), defBody (top 39), defScope (top 39), [], []⟩, ⟨("begun", none), "begun", "begun", defArgs (top 58), defBody (top 58), defScope (top 58), [], []⟩, ⟨("beat_row", none), "beat_row", "beat_row", defArgs (top 60), defBody (top 60), defScope (top 60), [], []⟩]
def fn9 : List He.DefD := [⟨("has_room", none), "has_room", "has_room", defArgs (top 61), defBody (top 61), defScope (top 61), [], []⟩, ⟨("is_possible", none), "is_possible", "is_possible", defArgs (top 62), defBody (top 62), defScope (top 62), [], []⟩, ⟨("possible", none), "possible", "possible", defArgs (top 63), defBody (top 63), defScope (top 63), [], []⟩, ⟨("after_beat", none), "after_beat", "after_beat", defArgs (top 64), defBody (top 64), defScope (top 64), [], []⟩, ⟨("want_station", none), "want_station", "want_station", defArgs (top 48), defBody (top 48), defScope (top 48), [], []⟩, ⟨("are_sizes", none), "are_sizes", "are_sizes", defArgs (top 54), defBody (top 54), defScope (top 54), [], []⟩]
def fn10 : List He.DefD := [⟨("want_sizes", none), "want_sizes", "want_sizes", defArgs (top 55), defBody (top 55), defScope (top 55), [], []⟩, ⟨("Station", some "__len__"), "__len__", "Station.__len__", defArgs (inClass (top 40) 6), defBody (inClass (top 40) 6), defScope (inClass (top 40) 6), [], []⟩, ⟨("is_state", none), "is_state", "is_state", defArgs (top 56), defBody (top 56), defScope (top 56), [], []⟩, ⟨("want_state", none), "want_state", "want_state", defArgs (top 57), defBody (top 57), defScope (top 57), [], []⟩, ⟨("begin_of", none), "begin_of", "begin_of", defArgs (top 65), defBody (top 65), defScope (top 65), [], []⟩, ⟨("can_be_done", none), "can_be_done", "can_be_done", defArgs (top 66), defBody (top 66), defScope (top 66), [.non], []⟩]
def fn11 : List He.DefD := [⟨("done", none), "done", "done", defArgs (top 67), defBody (top 67), defScope (top 67), [.non], []⟩, ⟨("fault_of", none), "fault_of", "fault_of", defArgs (top 68), defBody (top 68), defScope (top 68), [], []⟩, ⟨("behind_run", none), "behind_run", "behind_run", defArgs (top 69), defBody (top 69), defScope (top 69), [], []⟩, ⟨("state_behind", none), "state_behind", "state_behind", defArgs (top 70), defBody (top 70), defScope (top 70), [.non], []⟩, ⟨("is_full", none), "is_full", "is_full", defArgs (top 71), defBody (top 71), defScope (top 71), [.non], []⟩, ⟨("finished", none), "finished", "finished", defArgs (top 72), defBody (top 72), defScope (top 72), [.int 20000], []⟩]
def fn12 : List He.DefD := [⟨("full_run", none), "full_run", "full_run", defArgs (top 73), defBody (top 73), defScope (top 73), [.non], []⟩, ⟨("end", none), "end", "end", defArgs (top 74), defBody (top 74), defScope (top 74), [.non], []⟩, ⟨("flows", none), "flows", "flows", defArgs (top 75), defBody (top 75), defScope (top 75), [], []⟩, ⟨("_law_led", none), "_law_led", "_law_led", defArgs (top 117), defBody (top 117), defScope (top 117), [], []⟩, ⟨("_law_right", none), "_law_right", "_law_right", defArgs (top 118), defBody (top 118), defScope (top 118), [], []⟩, ⟨("is_begin", none), "is_begin", "is_begin", defArgs (top 46), defBody (top 46), defScope (top 46), [], []⟩]
def fn13 : List He.DefD := [⟨("law", none), "law", "law", defArgs (top 119), defBody (top 119), defScope (top 119), [], []⟩, ⟨("Draft", some "whole"), "whole", "Draft.whole", defArgs (inClass (top 107) 3), defBody (inClass (top 107) 3), defScope (inClass (top 107) 3), [], []⟩]
def fn : List He.DefD := fn0 ++ fn1 ++ fn2 ++ fn3 ++ fn4 ++ fn5 ++ fn6 ++ fn7 ++ fn8 ++ fn9 ++ fn10 ++ fn11 ++ fn12 ++ fn13
def prs0 : List PrD := [("Yard", "pipes", "Yard.pipes", inClass (top 47) 4)]
def prs : List PrD := prs0
def exs0 : List (PySem.W.Frag → Bool) := [fun K => tupA K (He.ga K "SIGNS") [.str "0", .str "1"], fun K => tupA K (He.ga K "OF_ONE") [.str "not", .str "twice", .str "half", .str "change", .str "count"], fun K => tupA K (He.ga K "OF_TWO") [.str "keep", .str "then"], fun K => tupA K (He.ga K "TWOS") [.str "00", .str "01", .str "10", .str "11"], fun K => kvB K (He.ga K "LINES") "1", fun K => tupA K (kvA K (He.ga K "LINES") "1") [.int 0], fun K => kvB K (He.ga K "LINES") "2", fun K => tupA K (kvA K (He.ga K "LINES") "2") [.int 1], fun K => kvB K (He.ga K "LINES") "12", fun K => tupA K (kvA K (He.ga K "LINES") "12") [.int 0, .int 1]]
def exs1 : List (PySem.W.Frag → Bool) := [fun K => isaB K (He.ga K "Station"), fun K => creB K (He.ga K "Yard"), fun K => cvB K (He.ga K "Yard") "MOST_STATIONS" (.int 12), fun K => He.conB K "Yard" "MOST_EXITS" (.int 3)]
def exs : List (PySem.W.Frag → Bool) := exs0 ++ exs1
def tbs : List He.Tab := [(fun K => He.ga K "LINES", ["1", "2", "12"])]
def hd : Hd := ⟨dsN, csN, tpN, fa, fn, tbs, prs, fun K => exs.all fun e => e K⟩
abbrev R : PySem.W.OpenRow := PySem.W.OpenLaw.row PySem.Challenge.rw_flowyard_k23_whole_meant_by_any_schedule
abbrev qv : Program := PySem.W.view R.prog [119]
noncomputable abbrev rn (w : World) (os : OsState) := HandSHeadRun.endF (HandSHeadRun.stepQ (HandSHeadRun.denQ HandSHeadRun.tabQ) R.prog w) 20000 R.prog w os
abbrev wF (w : World) : World := w.withFollow "special-get-raises" false
abbrev wT (w : World) : World := w.withFollow "special-get-raises" true
end FYH

set_option Elab.async false
set_option linter.all false
set_option maxRecDepth 100000
set_option maxHeartbeats 0
namespace FYH
open PySem PySem.W PySem.Calls PySem.Spec PyProof.Rows L2
theorem runF (w : World) (os : OsState) : (rn (wF w) os).map (fun s => (HandSHeadRun.looksF R.prog (boot_heap (wF w).params) s.abs, HandSHeadRun.seenQ qv nms (importedModules R.prog.main.body) (fun s => PySem.W.xlAt qv [] s && PySem.W.recOk R.toRowW.records s) s.abs, hd.ob s)) = some (true, PySem.W.openGood qv nms, hd.val (wF w)) := by
  kernel_rfl
end FYH

set_option Elab.async false
set_option linter.all false
set_option maxRecDepth 100000
set_option maxHeartbeats 0
namespace FYH
open PySem PySem.W PySem.Calls PySem.Spec PyProof.Rows L2
theorem runT (w : World) (os : OsState) : (rn (wT w) os).map (fun s => (HandSHeadRun.looksF R.prog (boot_heap (wT w).params) s.abs, HandSHeadRun.seenQ qv nms (importedModules R.prog.main.body) (fun s => PySem.W.xlAt qv [] s && PySem.W.recOk R.toRowW.records s) s.abs, hd.ob s)) = some (true, PySem.W.openGood qv nms, hd.val (wT w)) := by
  kernel_rfl
end FYH

set_option Elab.async false
set_option linter.all false
set_option maxRecDepth 100000
set_option maxHeartbeats 0
namespace FYH
open PySem PySem.Spec PyProof.Rows L2
theorem run (w : World) : HandSHeadRun.RunEq R qv hd.hk hd.ob 20000 nms w := PySem.W.byRow2 "special-get-raises" (P := fun w => HandSHeadRun.RunEq R qv hd.hk hd.ob 20000 nms w) (fun w os => runF w os) (fun w os => runT w os) w
end FYH

set_option Elab.async false
set_option linter.all false
set_option maxRecDepth 100000
set_option maxHeartbeats 4000000
/-! list(zip(x, y)) of two texts -/
namespace FYR
open PySem PySem.Spec PyProof.Rows L2
section
variable {prog : Program} {w : World} {A : Around} {E : Value → Shared → Prop} {s : Shared} {z TI TO i1 i2 : Addr} {fp1 fp2 : List Addr} {n1 n2 i : Nat} {P1 P2 : Nat → Value → Prop} {St1 St2 : Nat → Heap → Prop} {T : Addr} {f : Bool} {oT : Obj}
theorem zipH_next_item {Q : Value → Shared → Prop} (S : ZipSep2 z TI TO i1 i2 fp1 fp2) (D1 : Draws prog w A i1 fp1 n1 P1 St1) (D2 : Draws prog w A i2 fp2 n2 P2 St2)
    (hz : IsZipHeld s.heap z TI TO T f) (hT : s.heap.get? T = some oT) (hTI : IsTupOf2 s.heap TI (.ref i1) (.ref i2)) (st1 : St1 i s.heap) (st2 : St2 i s.heap) (hlt1 : i < n1) (hlt2 : i < n2)
    (hQ : ∀ x1 x2 h' tk, P1 i x1 → P2 i x2 → IsZipHeld h' z TI TO T true → St1 (i + 1) h' → St2 (i + 1) h' → IsTupOf2 h' s.heap.objs.size x1 x2 → h'.objs.size = s.heap.objs.size + 1 →
      (∀ c o, c ≠ z → c ≠ i1 → c ≠ i2 → s.heap.get? c = some o → h'.get? c = some o) → Q (.ref s.heap.objs.size) { s with heap := h', toks := tk }) :
    wpAny (model prog w) A (Builtin.«zip.__next__» ⟨[.ref z], []⟩) (fun fin s' => ∃ v, fin = .done (.ret v) ∧ Q v s') E s := by
  obtain ⟨hp, g, d, tk0, os⟩ := s
  show wpAny _ _ (field (.ref z) 2 >>= _) _ _ _
  refine wpAny_bind (wpAny_field hz rfl (x := .bool false) rfl ?_)
  show wpAny _ _ (field (.ref z) 3 >>= _) _ _ _
  refine wpAny_bind (wpAny_field hz rfl (x := .ref TI) rfl ?_)
  refine wpAny_bind (wpAny_seqItems hTI rfl ?_)
  show wpAny _ _ (Builtin.SmallTypes.ownedTupleIsFree (.ref z) >>= _) _ _ _
  refine wpAny_bind (wpAny_tupleHeld_zip hz hT fun h₁ hz₁ hs₁ => ?_)
  simp only [Bool.false_eq_true, if_false]
  refine wpAny_bind ?_
  rw [← Array.forIn_toList]
  simp only [List.forIn_cons, List.forIn_nil]
  refine wpAny_bind (wpAny_bind (wpAny_holding ?_))
  show wpAny _ _ (Builtin.SmallTypes.nextOf (.ref i1) >>= _) _ _ ⟨h₁, g, d, tk0, os⟩
  refine wpAny_bind (D1.item i _ _ _ hlt1 (D1.over st1 hs₁ S.zf1) fun x1 h₂ tk1 hx1 sn1 hs₂ => wpAny_pure ?_)
  replace hs₂ : Heap.SameBut i1 h₁ h₂ := hs₂
  refine wpAny_pure ?_
  refine wpAny_bind (wpAny_bind (wpAny_holding ?_))
  show wpAny _ _ (Builtin.SmallTypes.nextOf (.ref i2) >>= _) _ _ ⟨h₂, g, d, tk1, os⟩
  refine wpAny_bind (D2.item i _ _ _ hlt2 (D2.over (D2.over st2 hs₁ S.zf2) hs₂ S.sep1_2) fun x2 h₃ tk2 hx2 sn2 hs₃ => wpAny_pure ?_)
  replace hs₃ : Heap.SameBut i2 h₂ h₃ := hs₃
  refine wpAny_pure (wpAny_pure ?_)
  show wpAny _ _ (newTuple [x1, x2] >>= _) _ _ ⟨h₃, g, d, tk2, os⟩
  refine wpAny_bind (wpAny_newTuple ?_)
  have hsz : h₃.objs.size = hp.objs.size := by rw [hs₃.1, hs₂.1, hs₁.1]
  have hz₃ : IsZipHeld h₃ z TI TO T true := hs₃.extBut _ _ S.zi2 (hs₂.extBut _ _ S.zi1 hz₁)
  have hk : ∀ c o, c ≠ z → c ≠ i1 → c ≠ i2 → hp.get? c = some o → h₃.get? c = some o := fun c o c1 c2 c3 e => hs₃.extBut _ _ c3 (hs₂.extBut _ _ c2 (hs₁.extBut _ _ c1 e))
  have hj1 : St1 (i + 1) h₃ := D1.over sn1 hs₃ S.sep2_1
  refine wpAny_pure ⟨_, rfl, ?_⟩
  show Q (.ref h₃.objs.size) ⟨h₃.push { cls := .type "tuple", data := .seq #[x1, x2] }, g, d, tk2, os⟩
  have hp' : IsTupOf2 (h₃.push { cls := .type "tuple", data := .seq #[x1, x2] }) h₃.objs.size x1 x2 := Heap.get?_push_size _ rfl
  have hz4 : (h₃.push { cls := .type "tuple", data := .seq #[x1, x2] }).objs.size = h₃.objs.size + 1 := Heap.size_push ..
  rw [hsz] at hp' hz4 ⊢
  exact hQ x1 x2 _ tk2 hx1 hx2 (Heap.get?_push_of_some _ hz₃) (D1.frame _ _ _ hj1 fun b _ o e => Heap.get?_push_of_some _ e) (D2.frame _ _ _ sn2 fun b _ o e => Heap.get?_push_of_some _ e) hp' hz4 fun c o c1 c2 c3 e => Heap.get?_push_of_some _ (hk c o c1 c2 c3 e)
theorem zipH_next_end {Q : Fin → Shared → Prop} (S : ZipSep2 z TI TO i1 i2 fp1 fp2) (D1 : Draws prog w A i1 fp1 n1 P1 St1) (D2 : Draws prog w A i2 fp2 n2 P2 St2)
    (hz : IsZipHeld s.heap z TI TO T f) (hT : s.heap.get? T = some oT) (hTI : IsTupOf2 s.heap TI (.ref i1) (.ref i2)) (st1 : St1 i s.heap) (st2 : St2 i s.heap) (hle1 : i ≤ n1) (hle2 : i ≤ n2) (hend : i = n1 ∨ i = n2)
    (hE : ∀ h' tk e, (∀ c o, c ≠ z → c ≠ i1 → c ≠ i2 → s.heap.get? c = some o → h'.get? c = some o) → (∃ o, h'.get? e = some o ∧ o.cls = .type "StopIteration") → E (.ref e) { s with heap := h', toks := tk }) :
    wpAny (model prog w) A (Builtin.«zip.__next__» ⟨[.ref z], []⟩) Q E s := by
  obtain ⟨hp, g, d, tk0, os⟩ := s
  show wpAny _ _ (field (.ref z) 2 >>= _) _ _ _
  refine wpAny_bind (wpAny_field hz rfl (x := .bool false) rfl ?_)
  show wpAny _ _ (field (.ref z) 3 >>= _) _ _ _
  refine wpAny_bind (wpAny_field hz rfl (x := .ref TI) rfl ?_)
  refine wpAny_bind (wpAny_seqItems hTI rfl ?_)
  show wpAny _ _ (Builtin.SmallTypes.ownedTupleIsFree (.ref z) >>= _) _ _ _
  refine wpAny_bind (wpAny_tupleHeld_zip hz hT fun h₁ hz₁ hs₁ => ?_)
  simp only [Bool.false_eq_true, if_false]
  refine wpAny_bind ?_
  rw [← Array.forIn_toList]
  simp only [List.forIn_cons, List.forIn_nil]
  refine wpAny_bind (wpAny_bind (wpAny_holding ?_))
  show wpAny _ _ (Builtin.SmallTypes.nextOf (.ref i1) >>= _) _ _ ⟨h₁, g, d, tk0, os⟩
  by_cases hi : i = n1
  · subst hi
    refine wpAny_bind (D1.done _ _ _ (D1.over st1 hs₁ S.zf1) fun h₂ e hs₂ he => ?_)
    exact hE h₂ tk0 e (fun c o c1 c2 _ x => hs₂ _ _ c2 (hs₁.extBut _ _ c1 x)) he
  · have h2 : i = n2 := hend.resolve_left hi
    subst h2
    refine wpAny_bind (D1.item i _ _ _ (by omega) (D1.over st1 hs₁ S.zf1) fun x1 h₂ tk1 hx1 sn1 hs₂ => wpAny_pure ?_)
    replace hs₂ : Heap.SameBut i1 h₁ h₂ := hs₂
    refine wpAny_pure ?_
    refine wpAny_bind (wpAny_bind (wpAny_holding ?_))
    show wpAny _ _ (Builtin.SmallTypes.nextOf (.ref i2) >>= _) _ _ ⟨h₂, g, d, tk1, os⟩
    refine wpAny_bind (D2.done _ _ _ (D2.over (D2.over st2 hs₁ S.zf2) hs₂ S.sep1_2) fun h₃ e hs₃ he => ?_)
    exact hE h₃ tk1 e (fun c o c1 c2 c3 x => hs₃ _ _ c3 (hs₂.extBut _ _ c2 (hs₁.extBut _ _ c1 x))) he
theorem pyNext_zipH_item {Q : Option Value → Shared → Prop} (S : ZipSep2 z TI TO i1 i2 fp1 fp2) (D1 : Draws prog w A.in1 i1 fp1 n1 P1 St1) (D2 : Draws prog w A.in1 i2 fp2 n2 P2 St2)
    (hz : IsZipHeld s.heap z TI TO T f) (hT : s.heap.get? T = some oT) (hTI : IsTupOf2 s.heap TI (.ref i1) (.ref i2)) (st1 : St1 i s.heap) (st2 : St2 i s.heap) (hlt1 : i < n1) (hlt2 : i < n2)
    (hQ : ∀ x1 x2 h' tk, P1 i x1 → P2 i x2 → IsZipHeld h' z TI TO T true → St1 (i + 1) h' → St2 (i + 1) h' → IsTupOf2 h' s.heap.objs.size x1 x2 → h'.objs.size = s.heap.objs.size + 1 →
      (∀ c o, c ≠ z → c ≠ i1 → c ≠ i2 → s.heap.get? c = some o → h'.get? c = some o) → Q (some (.ref s.heap.objs.size)) { s with heap := h', toks := tk }) :
    wpAny (model prog w) A (pyNext (.ref z)) Q E s := by
  have hTy : s.TypeIs (.ref z) "zip" := ⟨_, hz, rfl⟩
  unfold pyNext
  exact wpAny_bind (wpAny_attempt (wpAny_callSpecial?_slot (name := Str.ofString "__next__") hTy F.slot_zip_next
    (wpAny_call_entry F.slot_zip_next hTy F.entry_zip_next
      (zipH_next_item S D1 D2 hz hT hTI st1 st2 hlt1 hlt2 fun x1 x2 h' tk y1 y2 b1 d1 d2 b5 b6 b7 => wpAny_pure (hQ x1 x2 h' tk y1 y2 b1 d1 d2 b5 b6 b7)) (F.args_zip_next_1 _))))
theorem pyNext_zipH_end {Q : Option Value → Shared → Prop} (S : ZipSep2 z TI TO i1 i2 fp1 fp2) (D1 : Draws prog w A.in1 i1 fp1 n1 P1 St1) (D2 : Draws prog w A.in1 i2 fp2 n2 P2 St2)
    (hz : IsZipHeld s.heap z TI TO T f) (hT : s.heap.get? T = some oT) (hTI : IsTupOf2 s.heap TI (.ref i1) (.ref i2)) (st1 : St1 i s.heap) (st2 : St2 i s.heap) (hle1 : i ≤ n1) (hle2 : i ≤ n2) (hend : i = n1 ∨ i = n2)
    (hQ : ∀ h' tk, (∀ c o, c ≠ z → c ≠ i1 → c ≠ i2 → s.heap.get? c = some o → h'.get? c = some o) → Q none { s with heap := h', toks := tk }) : wpAny (model prog w) A (pyNext (.ref z)) Q E s := by
  have hTy : s.TypeIs (.ref z) "zip" := ⟨_, hz, rfl⟩
  unfold pyNext
  refine wpAny_bind (wpAny_attempt (wpAny_callSpecial?_slot (name := Str.ofString "__next__") hTy F.slot_zip_next
    (wpAny_call_entry F.slot_zip_next hTy F.entry_zip_next (zipH_next_end S D1 D2 hz hT hTI st1 st2 hle1 hle2 hend fun h' tk e hk he => ?_) (F.args_zip_next_1 _))))
  obtain ⟨o, ho, hc⟩ := he
  refine wpAny_bind (wpAny_isInstance (T := "StopIteration") (b := true) ⟨o, ho, hc⟩ isSubtype_stop ?_)
  exact wpAny_pure (hQ _ _ hk)
/-- the zip ahead of turn i, a tuple out or none -/
def ZSt (z TI TO i1 i2 S : Addr) (St1 St2 : Nat → Heap → Prop) (i : Nat) (h : Heap) : Prop :=
  IsTupOf2 h TI (.ref i1) (.ref i2) ∧ St1 i h ∧ St2 i h ∧ ((IsZip h z TI TO .none ∧ ∃ a1 a2, IsTupOf2 h TO a1 a2) ∨ ∃ T f oT, IsZipHeld h z TI TO T f ∧ h.get? T = some oT ∧ S < T)
theorem zst_item {Sl : Addr} {Q : Option Value → Shared → Prop} (S : ZipSep2 z TI TO i1 i2 fp1 fp2) (D1 : Draws prog w A.in1 i1 fp1 n1 P1 St1) (D2 : Draws prog w A.in1 i2 fp2 n2 P2 St2) (low : z < Sl ∧ TI < Sl ∧ TO < Sl ∧ i1 < Sl ∧ i2 < Sl) (hSl : Sl < s.heap.objs.size)
    (st : ZSt z TI TO i1 i2 Sl St1 St2 i s.heap) (hlt1 : i < n1) (hlt2 : i < n2)
    (hQ : ∀ x1 x2 h' tk, P1 i x1 → P2 i x2 → ZSt z TI TO i1 i2 Sl St1 St2 (i + 1) h' → IsTupOf2 h' s.heap.objs.size x1 x2 → h'.objs.size = s.heap.objs.size + 1 →
      (∀ c o, c ≠ z → c ≠ TO → c ≠ i1 → c ≠ i2 → s.heap.get? c = some o → h'.get? c = some o) → Q (some (.ref s.heap.objs.size)) { s with heap := h', toks := tk }) :
    wpAny (model prog w) A (pyNext (.ref z)) Q E s := by
  obtain ⟨hTI, st1, st2, ⟨hz, a1, a2, hTO⟩ | ⟨T, f, oT, hz, hT, hST⟩⟩ := st
  · refine wpAny_pyNext_zipD2_item S D1 D2 hz hTI hTO st1 st2 hlt1 hlt2 fun x1 x2 h' tk y1 y2 b1 b2 d1 d2 b5 b6 hk => ?_
    exact hQ x1 x2 h' tk y1 y2 ⟨hk _ _ S.TIz S.TITO S.TIi1 S.TIi2 hTI, d1, d2, .inr ⟨_, false, _, b1, b5, hSl⟩⟩ b5 b6 hk
  · refine pyNext_zipH_item S D1 D2 hz hT hTI st1 st2 hlt1 hlt2 fun x1 x2 h' tk y1 y2 b1 d1 d2 b5 b6 hk => ?_
    have nz : T ≠ z := fun e => absurd (Nat.lt_trans hST (e ▸ low.1)) (Nat.lt_irrefl _)
    have n1' : T ≠ i1 := fun e => absurd (Nat.lt_trans hST (e ▸ low.2.2.2.1)) (Nat.lt_irrefl _)
    have n2' : T ≠ i2 := fun e => absurd (Nat.lt_trans hST (e ▸ low.2.2.2.2)) (Nat.lt_irrefl _)
    exact hQ x1 x2 h' tk y1 y2 ⟨hk _ _ S.TIz S.TIi1 S.TIi2 hTI, d1, d2, .inr ⟨T, true, oT, b1, hk _ _ nz n1' n2' hT, hST⟩⟩ b5 b6 fun c o c1 _ c2 c3 e => hk c o c1 c2 c3 e
theorem zst_end {Sl : Addr} {Q : Option Value → Shared → Prop} (S : ZipSep2 z TI TO i1 i2 fp1 fp2) (D1 : Draws prog w A.in1 i1 fp1 n1 P1 St1) (D2 : Draws prog w A.in1 i2 fp2 n2 P2 St2)
    (st : ZSt z TI TO i1 i2 Sl St1 St2 i s.heap) (hle1 : i ≤ n1) (hle2 : i ≤ n2) (hend : i = n1 ∨ i = n2)
    (hQ : ∀ h' tk, (∀ c o, c ≠ z → c ≠ TO → c ≠ i1 → c ≠ i2 → s.heap.get? c = some o → h'.get? c = some o) → Q none { s with heap := h', toks := tk }) : wpAny (model prog w) A (pyNext (.ref z)) Q E s := by
  obtain ⟨hTI, st1, st2, ⟨hz, a1, a2, hTO⟩ | ⟨T, f, oT, hz, hT, hST⟩⟩ := st
  · exact wpAny_pyNext_zipD2_end S D1 D2 hz hTI hTO st1 st2 hle1 hle2 hend hQ
  · exact pyNext_zipH_end S D1 D2 hz hT hTI st1 st2 hle1 hle2 hend fun h' tk hk => hQ h' tk fun c o c1 _ c2 c3 e => hk c o c1 c2 c3 e
end
structure ZipG (P1 P2 : Nat → Value → Prop) (lo : Addr) (h : Heap) (as : List Addr) : Prop where
  rise : as.Pairwise (· < ·)
  above : ∀ a ∈ as, lo < a
  pairs : ∀ (j : Nat) (a : Addr), as[j]? = some a → ∃ x1 x2, P1 j x1 ∧ P2 j x2 ∧ IsTupOf2 h a x1 x2
section
variable {prog : Program} {w : World} {A : Around} {s : Shared} {R : Result → Shared → Prop} {z TI TO i1 i2 : Addr} {fp1 fp2 : List Addr} {n1 n2 : Nat} {P1 P2 : Nat → Value → Prop} {St1 St2 : Nat → Heap → Prop}
theorem ZipG.there {lo : Addr} {h : Heap} {as : List Addr} (g : ZipG P1 P2 lo h as) {a : Addr} (ha : a ∈ as) : a < h.objs.size := by
  obtain ⟨j, hj⟩ := List.mem_iff_getElem?.mp ha
  obtain ⟨_, _, _, _, e⟩ := g.pairs j a hj
  exact Heap.lt_size e
theorem zip_loop {S : Addr} (Sp : ZipSep2 z TI TO i1 i2 fp1 fp2) (D1 : Draws prog w A.in1.in1 i1 fp1 n1 P1 St1) (D2 : Draws prog w A.in1.in1 i2 fp2 n2 P2 St2) (low : z < S ∧ TI < S ∧ TO < S ∧ i1 < S ∧ i2 < S) (lf1 : ∀ b ∈ fp1, b < S) (lf2 : ∀ b ∈ fp2, b < S) (hn : min n1 n2 ≤ sizeLine) (res : Value) {h₁ : Heap}
    (hR : ∀ h' tk acc c as, (∀ b o, b ≠ S → b ≠ z → b ≠ TO → b ≠ i1 → b ≠ i2 → h₁.get? b = some o → h'.get? b = some o) → h'.get? S = some { cls := .type "list", dict := none, data := .seq acc c, slots := #[] } → as.length = min n1 n2 → ZipG P1 P2 S h' as →
      acc.toList = as.map Value.ref → R (.ok (.ret res)) { s with heap := h', toks := tk }) :
    ∀ (k i : Nat) (h : Heap) (tk c : Nat) (acc : Array Value) (as : List Addr), min n1 n2 - i = k → i ≤ min n1 n2 → ZSt z TI TO i1 i2 S St1 St2 i h → (∀ b o, b ≠ S → b ≠ z → b ≠ TO → b ≠ i1 → b ≠ i2 → h₁.get? b = some o → h.get? b = some o) →
      h.get? S = some { cls := .type "list", dict := none, data := .seq acc c, slots := #[] } → acc.toList = as.map Value.ref → as.length = i → ZipG P1 P2 S h as →
      codeAny (model prog w) A (.builtin "list.extend.loop" ⟨[.ref S, .ref z, res], []⟩) R { s with heap := h, toks := tk } := by
  have nS : ∀ b, b ≠ z → b ≠ TO → b ≠ i1 → b ≠ i2 → True := fun _ _ _ _ _ => trivial
  have Sz : S ≠ z := Nat.ne_of_gt low.1
  have STO : S ≠ TO := Nat.ne_of_gt low.2.2.1
  have S1 : S ≠ i1 := Nat.ne_of_gt low.2.2.2.1
  have S2 : S ≠ i2 := Nat.ne_of_gt low.2.2.2.2
  intro k
  induction k with
  | zero =>
    intro i h tk c acc as hk hi hst hkeep hS hacc hal hG
    have hin : i = min n1 n2 := by omega
    refine codeAny_builtin PySem.F.entry_extend_loop ?_
    rw [Around.under_plainId PySem.F.plain_extend_loop _]
    show wpAny _ A.in1 (pyNext (.ref z) >>= _) _ _ _
    refine wpAny_bind (zst_end (s := { s with heap := h, toks := tk }) (A := A.in1) Sp D1 D2 hst (by omega) (by omega) (by omega) fun h' tk' he => ?_)
    refine wpAny_pure (hR h' tk' acc c as (fun b o h0 h1 h2 h3 h4 e => he b o h1 h2 h3 h4 (hkeep b o h0 h1 h2 h3 h4 e)) (he S _ Sz STO S1 S2 hS) (by omega) ⟨hG.rise, hG.above, fun j a hj => ?_⟩ hacc)
    obtain ⟨x1, x2, p1, p2, e3⟩ := hG.pairs j a hj
    have ha := hG.above a (List.mem_of_getElem? hj)
    exact ⟨x1, x2, p1, p2, he a _ (Nat.ne_of_gt (Nat.lt_trans low.1 ha)) (Nat.ne_of_gt (Nat.lt_trans low.2.2.1 ha)) (Nat.ne_of_gt (Nat.lt_trans low.2.2.2.1 ha)) (Nat.ne_of_gt (Nat.lt_trans low.2.2.2.2 ha)) e3⟩
  | succ k ih =>
    intro i h tk c acc as hk hi hst hkeep hS hacc hal hG
    have hsz : acc.size = i := by rw [← Array.length_toList, hacc, List.length_map, hal]
    refine codeAny_builtin PySem.F.entry_extend_loop ?_
    rw [Around.under_plainId PySem.F.plain_extend_loop _]
    show wpAny _ A.in1 (pyNext (.ref z) >>= _) _ _ _
    refine wpAny_bind (zst_item (s := { s with heap := h, toks := tk }) (A := A.in1) Sp D1 D2 low (Heap.lt_size hS) hst (by omega) (by omega) fun x1 x2 h' tk' y1 y2 hst' ht hz hkp => ?_)
    dsimp only at ht hz hkp ⊢
    have hS' := hkp S _ Sz STO S1 S2 hS
    have up : ∀ b o, b ≠ S → h'.get? b = some o → (h'.update S (Obj.mapSeq (·.push (Value.ref h.objs.size)))).get? b = some o := fun b o hb e => (Heap.get?_update_other _ _ (Ne.symm hb)).trans e
    have hSl : S < h.objs.size := Heap.lt_size hS
    have zst2 : ZSt z TI TO i1 i2 S St1 St2 (i + 1) (h'.update S (Obj.mapSeq (·.push (Value.ref h.objs.size)))) := by
      obtain ⟨a1, a2, a3, a4⟩ := hst'
      refine ⟨up _ _ (Nat.ne_of_lt low.2.1) a1, D1.frame _ _ _ a2 fun b hb o e => up b o (Nat.ne_of_lt (lf1 b hb)) e, D2.frame _ _ _ a3 fun b hb o e => up b o (Nat.ne_of_lt (lf2 b hb)) e, ?_⟩
      rcases a4 with ⟨q1, q2, q3, q4⟩ | ⟨T, f, oT, q1, q2, q3⟩
      · exact .inl ⟨up _ _ (Ne.symm Sz) q1, q2, q3, up _ _ (Ne.symm STO) q4⟩
      · exact .inr ⟨T, f, oT, up _ _ (Ne.symm Sz) q1, up _ _ (Nat.ne_of_gt q3) q2, q3⟩
    show wpAny _ A.in1 (updateSeq S (·.push (Value.ref h.objs.size)) >>= _) _ _ _
    refine wpAny_bind ?_
    refine wpAny_updateSeq hS' rfl (wpAny_pure ⟨plainId_quiet PySem.F.plain_extend_loop _, ih (i + 1) _ tk' _ (acc.push (Value.ref h.objs.size)) (as ++ [h.objs.size]) (by omega) (by omega) zst2
      (fun b o h0 h1 h2 h3 h4 e => up b o h0 (hkp b o h1 h2 h3 h4 (hkeep b o h0 h1 h2 h3 h4 e))) (Heap.get?_update_self _ hS' rfl) (by rw [Array.toList_push, hacc, List.map_append]; rfl) (by rw [List.length_append, hal]; rfl) ⟨?_, ?_, ?_⟩⟩) (by rw [hsz]; omega) (by show (acc.push (Value.ref h.objs.size)).size ≤ sizeLine + 1; rw [Array.size_push, hsz]; omega)
    · refine List.pairwise_append.mpr ⟨hG.rise, List.pairwise_singleton _ _, fun a ha b hb => ?_⟩
      rw [List.mem_singleton.mp hb]
      exact hG.there ha
    · intro a ha
      rcases List.mem_append.mp ha with ha | ha
      · exact hG.above a ha
      · rw [List.mem_singleton.mp ha]; exact hSl
    · intro j b hj
      rcases Nat.lt_trichotomy j as.length with h1 | h1 | h1
      · rw [List.getElem?_append_left h1] at hj
        obtain ⟨w1, w2, p1, p2, e3⟩ := hG.pairs j b hj
        have ha := hG.above b (List.mem_of_getElem? hj)
        exact ⟨w1, w2, p1, p2, up b _ (Nat.ne_of_gt ha) (hkp b _ (Nat.ne_of_gt (Nat.lt_trans low.1 ha)) (Nat.ne_of_gt (Nat.lt_trans low.2.2.1 ha)) (Nat.ne_of_gt (Nat.lt_trans low.2.2.2.1 ha)) (Nat.ne_of_gt (Nat.lt_trans low.2.2.2.2 ha)) e3)⟩
      · subst h1
        have hb : h.objs.size = b := by simpa using hj
        subst hb
        exact ⟨x1, x2, by rw [hal]; exact y1, by rw [hal]; exact y2, up _ _ (Nat.ne_of_gt hSl) ht⟩
      · have hnone : (as ++ [h.objs.size])[j]? = none := List.getElem?_eq_none (by rw [List.length_append, List.length_singleton]; omega)
        rw [hnone] at hj; cases hj
end
end FYR

set_option Elab.async false
set_option linter.all false
set_option maxRecDepth 100000
set_option maxHeartbeats 4000000
/-! list(zip(x, y)) of two texts; x[i:j:k] -/
namespace FYR
open PySem PySem.Spec PyProof.Rows L2
theorem nolen_zip : typeLookup (.type "zip") "__len__" = pure none := by rw [typeLookup_type, builtinLookup_eq_fast]; kernel_rfl
theorem nohint_zip : typeLookup (.type "zip") "__length_hint__" = pure none := by rw [typeLookup_type, builtinLookup_eq_fast]; kernel_rfl
section
variable {prog : Program} {w : World} {A : Around} {E : Value → Shared → Prop} {s : Shared} {z TI TO i1 i2 : Addr} {fp1 fp2 : List Addr} {n1 n2 : Nat} {P1 P2 : Nat → Value → Prop} {St1 St2 : Nat → Heap → Prop}
/-- a fresh zip -/
def ZNew (z TI TO i1 i2 : Addr) (St1 St2 : Nat → Heap → Prop) (h : Heap) : Prop :=
  IsTupOf2 h TI (.ref i1) (.ref i2) ∧ St1 0 h ∧ St2 0 h ∧ IsZip h z TI TO .none ∧ ∃ a1 a2, IsTupOf2 h TO a1 a2
theorem zl_extend {R : Result → Shared → Prop} (Sp : ZipSep2 z TI TO i1 i2 fp1 fp2) (D1 : Draws prog w A.in1.in1 i1 fp1 n1 P1 St1) (D2 : Draws prog w A.in1.in1 i2 fp2 n2 P2 St2) (hv : ZNew z TI TO i1 i2 St1 St2 s.heap) (S : Addr)
    (low : z < S ∧ TI < S ∧ TO < S ∧ i1 < S ∧ i2 < S) (lf1 : ∀ b ∈ fp1, b < S) (lf2 : ∀ b ∈ fp2, b < S) (res : Value) (c₀ : Nat) (hS : s.heap.get? S = some { cls := .type "list", data := .seq #[] c₀ })
    (hR : ∀ h' tk acc c as, (∀ b o, b ≠ S → b ≠ z → b ≠ TO → b ≠ i1 → b ≠ i2 → s.heap.get? b = some o → h'.get? b = some o) → h'.get? S = some { cls := .type "list", dict := none, data := .seq acc c, slots := #[] } → as.length = min n1 n2 → ZipG P1 P2 S h' as →
      acc.toList = as.map Value.ref → R (.ok (.ret res)) { s with heap := h', toks := tk }) (hn : min n1 n2 ≤ sizeLine) :
    wpAny (model prog w) A.in1 (Builtin.List.listExtendWith (.ref S) (.ref z) res)
      (fun fin s' => match fin with | .done f => R (.ok f) s' | .again c' => c'.quiet = true ∧ codeAny (model prog w) A c' R s') (fun e s' => R (.error e) s') s := by
  have hTy : s.TypeIs (.ref z) "zip" := ⟨_, hv.2.2.2.1, rfl⟩
  have key : ∀ (h : Heap) (c₁ tk : Nat), (∀ b o, b ≠ S → s.heap.get? b = some o → h.get? b = some o) →
      h.get? S = some { cls := .type "list", data := .seq #[] c₁ } → codeAny (model prog w) A (.builtin "list.extend.loop" ⟨[.ref S, .ref z, res], []⟩) R { s with heap := h, toks := tk } := by
    intro h c₁ tk hk hS₁
    obtain ⟨q1, q2, q3, q4, a1, a2, q5⟩ := hv
    refine zip_loop (s := s) (h₁ := s.heap) Sp D1 D2 low lf1 lf2 hn res hR (min n1 n2) 0 h tk c₁ #[] [] (Nat.sub_zero _) (Nat.zero_le _)
      ⟨hk _ _ (Nat.ne_of_lt low.2.1) q1, D1.frame _ _ _ q2 fun b hb o e => hk b o (Nat.ne_of_lt (lf1 b hb)) e, D2.frame _ _ _ q3 fun b hb o e => hk b o (Nat.ne_of_lt (lf2 b hb)) e, .inl ⟨hk _ _ (Nat.ne_of_lt low.1) q4, a1, a2, hk _ _ (Nat.ne_of_lt low.2.2.1) q5⟩⟩
      (fun b o h0 _ _ _ _ e => hk b o h0 e) hS₁ rfl rfl ⟨List.Pairwise.nil, (fun _ ha => nomatch ha), (fun j a hj => by simp at hj)⟩
  unfold Builtin.List.listExtendWith
  refine wpAny_bind (wpAny_typeOf (T := "zip") hTy ?_)
  have h1 : Builtin.List.listSameRef (.ref S) (.ref z) = false := by simp [Builtin.List.listSameRef, Nat.ne_of_gt low.1]
  have h2 : (Value.type "zip" == Value.type "list") = false := by decide
  have h3 : (Value.type "zip" == Value.type "tuple") = false := by decide
  simp only [h1, h2, h3, Bool.or_false, Bool.false_eq_true, if_false]
  refine wpAny_bind (wpAny_pyIter_zip hv.2.2.2.1 ?_)
  refine wpAny_bind (wpAny_holding ?_)
  unfold Builtin.List.listLengthHint
  refine wpAny_bind (wpAny_specialOf hTy nolen_zip ?_)
  show wpAny _ A.in1 (specialOf (Value.ref z) (Str.ofString "__length_hint__") >>= _) _ _ _
  refine wpAny_bind (wpAny_specialOf hTy nohint_zip ?_)
  refine wpAny_pure ?_
  refine wpAny_ite_split (fun _ => ?_) (fun _ => wpAny_pure ⟨plainId_quiet PySem.F.plain_extend_loop _, key _ c₀ _ (fun b o _ e => e) hS⟩)
  refine wpAny_bind (wpAny_rule ?_)
  refine wpAny_bind ?_
  show wpAny _ _ (updateSeq S (·.push .none) >>= fun _ => updateSeq S (·.pop)) _ _ _
  refine wpAny_bind (wpAny_updateSeq hS rfl ?_)
  have hS₂ := Heap.get?_update_self (Obj.mapSeq (·.push Value.none)) hS rfl
  refine wpAny_updateSeq (hz := by seq_fits) hS₂ rfl ?_
  have hS₃ := Heap.get?_update_self (Obj.mapSeq (·.pop)) hS₂ rfl
  refine wpAny_pure ⟨plainId_quiet PySem.F.plain_extend_loop _, key _ _ _ (fun b o hb e => ?_) hS₃⟩
  exact (Heap.get?_update_other _ _ (Ne.symm hb)).trans ((Heap.get?_update_other _ _ (Ne.symm hb)).trans e)
theorem ZNew.keep {h h' : Heap} (D1 : Draws prog w A i1 fp1 n1 P1 St1) (D2 : Draws prog w A i2 fp2 n2 P2 St2) (hv : ZNew z TI TO i1 i2 St1 St2 h) (k : ∀ b o, (b = z ∨ b = TI ∨ b = TO ∨ b ∈ fp1 ∨ b ∈ fp2) → h.get? b = some o → h'.get? b = some o) : ZNew z TI TO i1 i2 St1 St2 h' := by
  obtain ⟨q1, q2, q3, q4, a1, a2, q5⟩ := hv
  exact ⟨k _ _ (by simp) q1, D1.frame _ _ _ q2 fun b hb o e => k b o (by simp [hb]) e, D2.frame _ _ _ q3 fun b hb o e => k b o (by simp [hb]) e, k _ _ (by simp) q4, a1, a2, k _ _ (by simp) q5⟩
theorem zl_init {R : Result → Shared → Prop} (Sp : ZipSep2 z TI TO i1 i2 fp1 fp2) (D1 : Draws prog w A.in1.in1 i1 fp1 n1 P1 St1) (D2 : Draws prog w A.in1.in1 i2 fp2 n2 P2 St2) (hv : ZNew z TI TO i1 i2 St1 St2 s.heap) (S : Addr)
    (low : z < S ∧ TI < S ∧ TO < S ∧ i1 < S ∧ i2 < S) (lf1 : ∀ b ∈ fp1, b < S) (lf2 : ∀ b ∈ fp2, b < S) (hS : s.heap.get? S = some { cls := .type "list", data := .seq #[] })
    (hR : ∀ h' tk acc c as, (∀ b o, b ≠ S → b ≠ z → b ≠ TO → b ≠ i1 → b ≠ i2 → s.heap.get? b = some o → h'.get? b = some o) → h'.get? S = some { cls := .type "list", dict := none, data := .seq acc c, slots := #[] } → as.length = min n1 n2 → ZipG P1 P2 S h' as →
      acc.toList = as.map Value.ref → R (.ok (.ret .none)) { s with heap := h', toks := tk }) (hn : min n1 n2 ≤ sizeLine) :
    wpAny (model prog w) A.in1 (Builtin.«list.__init__» ⟨[.ref S, .ref z], []⟩)
      (fun fin s' => match fin with | .done f => R (.ok f) s' | .again c' => c'.quiet = true ∧ codeAny (model prog w) A c' R s') (fun e s' => R (.error e) s') s := by
  show wpAny _ _ (do let old ← Builtin.List.listItems (.ref S); Builtin.List.listUpdate (.ref S) (fun _ => #[]); letGo old.toList.reverse; Builtin.List.listExtendWith (.ref S) (.ref z) .none) _ _ s
  refine wpAny_bind ?_
  unfold Builtin.List.listItems
  refine wpAny_bind (wpAny_seqItems hS rfl (wpAny_pure ?_))
  show wpAny _ _ (updateSeq S (fun _ => #[]) >>= fun _ => letGo (#[] : Array Value).toList.reverse >>= fun _ => Builtin.List.listExtendWith (.ref S) (.ref z) .none) _ _ s
  refine wpAny_bind (wpAny_updateSeq hS rfl ?_)
  have hS₂ := Heap.get?_update_self (Obj.mapSeq (fun _ => (#[] : Array Value))) hS rfl
  have oth : ∀ b o, b ≠ S → s.heap.get? b = some o → (s.heap.update S (Obj.mapSeq (fun _ => (#[] : Array Value)))).get? b = some o :=
    fun b o hb e => (Heap.get?_update_other _ _ (Ne.symm hb)).trans e
  refine wpAny_bind (wpAny_letGo ?_)
  refine zl_extend Sp D1 D2 (ZNew.keep D1 D2 hv fun b o hb e => oth b o ?_ e) S low lf1 lf2 .none _ hS₂ (fun h' tk acc c as hk hS' hl hG hacc => ?_) hn
  · rcases hb with q | q | q | q | q
    · rw [q]; exact Nat.ne_of_lt low.1
    · rw [q]; exact Nat.ne_of_lt low.2.1
    · rw [q]; exact Nat.ne_of_lt low.2.2.1
    · exact Nat.ne_of_lt (lf1 b q)
    · exact Nat.ne_of_lt (lf2 b q)
  · exact hR h' tk acc c as (fun b o h0 h1 h2 h3 h4 e => hk b o h0 h1 h2 h3 h4 (oth b o h0 e)) hS' hl hG hacc
theorem zl_call {Q : Value → Shared → Prop} (Sp : ZipSep2 z TI TO i1 i2 fp1 fp2) (D1 : Draws prog w A.in1.in1.in1 i1 fp1 n1 P1 St1) (D2 : Draws prog w A.in1.in1.in1 i2 fp2 n2 P2 St2) (hv : ZNew z TI TO i1 i2 St1 St2 s.heap)
    (low : z < s.heap.objs.size ∧ TI < s.heap.objs.size ∧ TO < s.heap.objs.size ∧ i1 < s.heap.objs.size ∧ i2 < s.heap.objs.size) (lf1 : ∀ b ∈ fp1, b < s.heap.objs.size) (lf2 : ∀ b ∈ fp2, b < s.heap.objs.size) (hn : min n1 n2 ≤ sizeLine)
    (hQ : ∀ h' tk acc c as, (∀ b o, b ≠ z → b ≠ TO → b ≠ i1 → b ≠ i2 → s.heap.get? b = some o → h'.get? b = some o) → h'.get? s.heap.objs.size = some { cls := .type "list", dict := none, data := .seq acc c, slots := #[] } → as.length = min n1 n2 → ZipG P1 P2 s.heap.objs.size h' as →
      acc.toList = as.map Value.ref → Q (.ref s.heap.objs.size) { s with heap := h', toks := tk }) :
    wpAny (model prog w) A (call (.type "list") [.ref z]) Q E s := by
  refine callType_codes (Q₁ := fun obj s₁ => obj = .ref s.heap.objs.size ∧ s₁ = { s with heap := s.heap.push { cls := .type "list", data := .seq #[] } }) PySem.F.called_list (PySem.F.typeCall_list_1 _) PySem.F.entry_list_init
    (code_list_new _ ⟨rfl, rfl⟩) fun obj s₁ h₁ => ?_
  obtain ⟨rfl, rfl⟩ := h₁
  have hS : (s.heap.push { cls := .type "list", data := .seq #[] }).get? s.heap.objs.size = some { cls := .type "list", data := .seq #[] } := Heap.get?_push_size _ rfl
  refine ⟨⟨_, hS, rfl⟩, PySem.F.args_list_init_2 _ _, zl_init (A := A.in1) Sp D1 D2 (ZNew.keep D1 D2 hv fun b o _ e => Heap.get?_push_of_some _ e) _ low lf1 lf2 hS (fun h' tk acc c as hk hS' hl hG hacc => ?_) hn⟩
  exact ⟨rfl, hQ h' tk acc c as (fun b o h1 h2 h3 h4 e => hk b o (Nat.ne_of_lt (Heap.lt_size e)) h1 h2 h3 h4 (Heap.get?_push_of_some _ e)) hS' hl hG hacc⟩
end

/-! ### x[i:j:k] of a text -/
def stepS (z : Str) (l u : Option Int) (k : Int) : Str :=
  if (k == 1 && (Builtin.Str.strSliceIndices l u k z.length).length == z.length) = true then z else ⟨((Builtin.Str.strSliceIndices l u k z.length).filterMap (z.cps[·]?)).toArray⟩
theorem stepS_length (z : Str) (l u : Option Int) (k : Int) (hk : k ≠ 0) : (stepS z l u k).length ≤ z.length := by
  unfold stepS
  split
  · exact Nat.le_refl _
  · show (List.filterMap _ (Builtin.Str.strSliceIndices l u k z.length)).toArray.size ≤ z.length
    rw [List.size_toArray]
    exact Nat.le_trans (List.length_filterMap_le _ _) (sliceIndicesBy_le _ _ _ hk z.length)
section
variable {X : Cx} {e st : Expr} {lo hi : Option Expr} {te : TE} {tl th ts : TO} {p2 pos : Pos}
def tStepS (te : TE) (tl th ts : TO) : TE := fun σ H Q => te σ H fun x H1 => tl σ H1 fun l H2 => th σ H2 fun u H3 => ts σ H3 fun k H4 => ∃ (z : Str) (i : Int), x = .str z ∧ k = some i ∧ i ≠ 0 ∧ z.length ≤ sizeLine ∧ Q (.str (stepS z l u i)) H4
theorem pe_stepS (he : PE X e te) (hl : PO X lo tl) (hu : PO X hi th) (hst : PO X (some st) ts) : PE X (.Subscript e (.Slice lo hi (some st) p2) pos) (tStepS te tl th ts) := by
  refine ⟨fun pins s σ H Q I h => ?_⟩
  refine Subscript_ (thn (he.run pins s σ H _ I h) fun v s1 ⟨x, H1, I1, r1, q1⟩ => ?_)
  refine wpAny_Slice (thn (hl.run pins s1 σ H1 _ I1 q1) fun vl s2 ⟨l, H2, I2, pl, q2⟩ => thn (hu.run pins s2 σ H2 _ I2 q2) fun vu s3 ⟨u, H3, I3, pu, q3⟩ => thn (hst.run pins s3 σ H3 _ I3 q3) fun vk s4 ⟨k, H4, I4, pk, q4⟩ => ?_)
  have I5 : Inv X pins σ H4 { s4 with heap := s4.heap.push { cls := .type "slice", data := .fields #[vl, vu, vk] } } := I4.kept (t' := s4.toks) fun b ob q => Heap.get?_push_of_some _ q
  obtain ⟨z, i, rfl, rfl, hi0, hz, q⟩ := q4
  obtain ⟨t, rfl⟩ := r1
  obtain ⟨l', rfl, rfl⟩ := IsPart.raw pl
  obtain ⟨u', rfl, rfl⟩ := IsPart.raw pu
  obtain ⟨k', rfl, ek⟩ := IsPart.raw pk
  have hlen := stepS_length z (l'.map (·.1)) (u'.map (·.1)) i hi0
  have ek2 : ((k'.map (·.1)).getD 1) = i := by rw [ek]; rfl
  show wpAny (model X.prog X.w) X.A (subscriptTail e (.Slice lo hi (some st) p2) (.str z t) (.ref s4.heap.objs.size)) (EP X pins σ Q) X.xe { s4 with heap := s4.heap.push { cls := .type "slice", data := .fields #[partValue l', partValue u', partValue k'] } }
  refine tail_any (ops := [.str z t, .ref s4.heap.objs.size]) (typeIs_str _ _ _) F.slot_str_getitem.lookup ?_ (by with_unfolding_all rfl)
  refine wpAny_getItem_str_slice (l := l') (u := u') (st := k') ⟨_, Heap.get?_push_size _ rfl, rfl, rfl⟩ (by rw [ek2]; simpa using hi0) ?_
  unfold stepS at q hlen
  show Made.post (if ((k'.map (·.1)).getD 1 == 1 && (Builtin.Str.strSliceIndices (l'.map (·.1)) (u'.map (·.1)) ((k'.map (·.1)).getD 1) z.length).length == z.length) = true then Made.val (.str z t)
    else Made.str ⟨((Builtin.Str.strSliceIndices (l'.map (·.1)) (u'.map (·.1)) ((k'.map (·.1)).getD 1) z.length).filterMap (z.cps[·]?)).toArray⟩) (EP X pins σ Q) _
  rw [ek2]
  by_cases c : (i == 1 && (Builtin.Str.strSliceIndices (l'.map (·.1)) (u'.map (·.1)) i z.length).length == z.length) = true
  · rw [if_pos c] at q ⊢
    exact ⟨.str z, H4, I5, ⟨t, rfl⟩, q⟩
  · rw [if_neg c] at q hlen ⊢
    exact ⟨Nat.le_trans hlen hz, .str _, H4, I5.tok _, ⟨_, rfl⟩, q⟩
end
end FYR

set_option Elab.async false
set_option linter.all false
set_option maxRecDepth 100000
set_option maxHeartbeats 4000000
namespace FYR
open PySem PySem.Spec PyProof.Rows L2
/-- pairs tracked at their addresses -/
def putP : Hp → List Addr → List (V × V) → Hp
  | H, a :: as, p :: ps => putP (upd H a (.tup [p.1, p.2])) as ps
  | H, _, _ => H
theorem putP_off {b : Addr} : ∀ (as : List Addr) (ps : List (V × V)) (H : Hp), b ∉ as → putP H as ps b = H b
  | [], _, _, _ => rfl
  | _ :: _, [], _, _ => rfl
  | a :: as, p :: ps, H, h => by
    show putP (upd H a (.tup [p.1, p.2])) as ps b = H b
    rw [putP_off as ps _ (fun z => h (List.mem_cons_of_mem _ z)), upd_ne (fun z => h (by rw [z]; exact List.mem_cons_self))]
theorem putP_at : ∀ (as : List Addr) (ps : List (V × V)) (H : Hp), as.length = ps.length → as.Nodup → Paired (fun (t : Addr) (p : V × V) => putP H as ps t = some (.tup [p.1, p.2])) as ps
  | [], [], _, _, _ => .nil
  | [], _ :: _, _, h, _ => by cases h
  | _ :: _, [], _, h, _ => by cases h
  | a :: as, p :: ps, H, h, hn => by
    have hn' := List.nodup_cons.mp hn
    have ih := putP_at as ps (upd H a (.tup [p.1, p.2])) (Nat.succ.inj h) hn'.2
    refine .cons ?_ ih
    show putP (upd H a (.tup [p.1, p.2])) as ps a = some (.tup [p.1, p.2])
    rw [putP_off as ps _ hn'.1, upd_same]
def sg (c : Nat) : V := .str ⟨#[c]⟩
/-- the pairs of two texts -/
def zipV (x y : Str) : List (V × V) := (x.cps.toList.zip y.cps.toList).map fun p => (sg p.1, sg p.2)
theorem zipV_len (x y : Str) : (zipV x y).length = min x.cps.size y.cps.size := by simp [zipV]
def tListZip (ta : TA) : TE := fun σ H Q => ta σ H fun vs H1 => ∃ x y : Str, vs = [.str x, .str y] ∧ x.length ≤ sizeLine ∧
  ∀ (H' : Hp) (p : Addr) (ts : List Addr), (∀ b o, H1 b = some o → H' b = some o) → H1 p = none → (∀ t ∈ ts, H1 t = none) → p ∉ ts → H' p = some (.lst (ts.map V.ref)) → Paired (fun (t : Addr) (q : V × V) => H' t = some (.tup [q.1, q.2])) ts (zipV x y) → Q (.ref p) H'
section
variable {X : Cx} {e e2 : Expr} {ta : TA} {p pz apos cpos pos : Pos}
theorem zips_laid {pins : List (Addr × Obj)} {σ : L2.St} {H : Hp} {s : Shared} {h' : Heap} {tk : Nat} {lo : Addr} {ps : List (V × V)} {acc : Array Value} {c : Nat} {as : List Addr} (I : Inv X pins σ H s) (hlo : s.heap.objs.size ≤ lo) (hz : ps.length ≤ sizeLine)
    (hk : ∀ b o, s.heap.get? b = some o → h'.get? b = some o) (hS : h'.get? lo = some { cls := .type "list", dict := none, data := .seq acc c, slots := #[] }) (hl : as.length = ps.length) (rise : as.Pairwise (· < ·)) (above : ∀ a ∈ as, lo < a)
    (prs : ∀ (j : Nat) (a : Addr) (q : V × V), as[j]? = some a → ps[j]? = some q → ∃ x1 x2, RelV q.1 x1 ∧ RelV q.2 x2 ∧ IsTupOf2 h' a x1 x2) (hacc : acc.toList = as.map Value.ref) :
    ∃ H' : Hp, (∀ b o, H b = some o → H' b = some o) ∧ H lo = none ∧ (∀ t ∈ as, H t = none) ∧ lo ∉ as ∧ H' lo = some (.lst (as.map V.ref)) ∧ Paired (fun (t : Addr) (q : V × V) => H' t = some (.tup [q.1, q.2])) as ps ∧ Inv X pins σ H' { s with heap := h', toks := tk } := by
  have hSn : lo ∉ as := fun z => Nat.lt_irrefl _ (above _ z)
  have nd : as.Nodup := List.Pairwise.imp (fun {a b} (h : a < b) => Nat.ne_of_lt h) rise
  have new : ∀ t ∈ as, H t = none := fun t ht => I.hok.fresh (Nat.le_trans hlo (Nat.le_of_lt (above t ht)))
  have newS : H lo = none := I.hok.fresh hlo
  have atP := putP_at as ps (upd H lo (.lst (as.map V.ref))) hl nd
  have off : ∀ b, b ∉ as → b ≠ lo → putP (upd H lo (.lst (as.map V.ref))) as ps b = H b := fun b h1 h2 => by rw [putP_off as ps _ h1, upd_ne h2]
  have low : ∀ b o, s.heap.get? b = some o → b ∉ as ∧ b ≠ lo := fun b o e => ⟨fun z => absurd (Heap.lt_size e) (Nat.not_lt.mpr (Nat.le_trans hlo (Nat.le_of_lt (above b z)))), Nat.ne_of_lt (Nat.lt_of_lt_of_le (Heap.lt_size e) hlo)⟩
  have kp : ∀ b u, H b = some u → (putP (upd H lo (.lst (as.map V.ref))) as ps) b = some u := fun b u e => by
    rw [off b (fun z => by rw [new b z] at e; cases e) (fun z => by rw [z, newS] at e; cases e)]
    exact e
  have eS : putP (upd H lo (.lst (as.map V.ref))) as ps lo = some (.lst (as.map V.ref)) := by rw [putP_off as ps _ hSn, upd_same]
  refine ⟨putP (upd H lo (.lst (as.map V.ref))) as ps, kp, newS, new, hSn, eS, atP, ?_⟩
  refine I.call' (ch := []) rfl ⟨fun b o q _ _ _ => hk b o q, fun b o q _ _ _ => ⟨o.slots, hk b o q⟩, fun b o q n _ => ?_, fun b o q _ => ⟨o, hk b o q⟩, fun b xs q => kp b _ q, fun b o u q => kp b _ q, fun b ps q => ⟨#[], by rw [kp b _ q]; simp⟩⟩ (fun b u q => ?_) I.bare fun b z => by simp at z
  · obtain ⟨z1, z2⟩ := low b o q
    rw [off b z1 z2]
    exact n
  · by_cases hb : b ∈ as
    · obtain ⟨j, pk, e1, e2, e3⟩ := LiI.paired_ix atP hb
      rw [e3] at q
      cases q
      obtain ⟨x1, x2, r1, r2, f3⟩ := prs j b pk e1 e2
      exact ⟨by show 2 ≤ sizeLine; decide, [x1, x2], .cons r1 (.cons r2 .nil), ⟨_, f3, rfl, _, rfl⟩⟩
    · by_cases hb2 : b = lo
      · rw [hb2] at q ⊢
        rw [eS] at q
        cases q
        refine ⟨by rw [List.length_map]; omega, acc.toList, c, by rw [hacc]; exact LiI.vals_refs as, ?_⟩
        rw [Array.toArray_toList]
        exact hS
      · rw [off b hb hb2] at q
        exact (I.hok b u q).stay (fun d v _ y => hk d v y) (fun d y => kp d _ y) fun d xs y => kp d _ y
/-- list(zip(e, e2)) of two texts -/
theorem pe_listZip (hc : X.calm = true) (ha : PA X [e, e2] ta) (hg : Gl X "list") (hm : X.mg "list" = none) (hg2 : Gl X "zip") (hm2 : X.mg "zip" = none)
    (hs : starEach [.Call (.Name "zip" pz) [e, e2] [] cpos] X.env = (false, eval (.Call (.Name "zip" pz) [e, e2] [] cpos) X.env) :: starEach [] X.env := by rfl)
    (hs2 : starEach [e, e2] X.env = (false, eval e X.env) :: starEach [e2] X.env := by rfl) (hpl : (backTo cpos (starEach [e2] X.env)).any (·.1) = false := by rfl) :
    PE X (.Call (.Name "list" p) [.Call (.Name "zip" pz) [e, e2] [] cpos] [] pos) (tListZip ta) := by
  refine ⟨fun pins s σ H Q I hq => ?_⟩
  refine wpAny_Call_Name_kw (ld_blt I hg hm boot_list ?_)
  refine PyProof.Rows.callWith_type1 ?_ hs rfl
  rw [hs]
  show wpAny _ _ (spliced ((false, eval (.Call (.Name "zip" pz) [e, e2] [] cpos) X.env) :: backTo pos (starEach [] X.env))) _ _ s
  refine Calls.spliced_cons ?_
  refine Call_ (ld_blt I hg2 hm2 PyProof.Rows.boot_zip (PyProof.Rows.callWith_type1 (thn (ha.run cpos pins s σ H _ I hq) fun us s1 ⟨vs, H1, I1, r1, q1⟩ => ?_) hs2 hpl))
  obtain ⟨x, y, ex, hx, q1⟩ := q1
  subst ex
  cases r1 with
  | cons r rr =>
    cases rr with
    | cons r' rr =>
      cases rr
      obtain ⟨t, rfl⟩ := r
      obtain ⟨u, rfl⟩ := r'
      have hh : X.A.in1.in1.in1.handled = none := I1.ok.hd hc
      refine zip_begins2 (begins_text x t) (begins_text y u) trivial trivial fun h' hz hTI hTO h1 h2 hsz hk => ?_
      refine Calls.spliced_nil ?_
      have e1 : h'.IsStrIter s1.heap.objs.size (strIterType x) x t 0 := ⟨_, h1, rfl, rfl⟩
      have e2' : h'.IsStrIter (s1.heap.objs.size + 1) (strIterType y) y u 0 := ⟨_, h2, rfl, rfl⟩
      have hx' : min x.cps.size y.cps.size ≤ sizeLine := Nat.le_trans (Nat.min_le_left _ _) hx
      have low5 : s1.heap.objs.size + 4 < h'.objs.size ∧ s1.heap.objs.size + 2 < h'.objs.size ∧ s1.heap.objs.size + 3 < h'.objs.size ∧ s1.heap.objs.size < h'.objs.size ∧ s1.heap.objs.size + 1 < h'.objs.size := by
        rw [hsz]
        exact ⟨Nat.add_lt_add_left (by decide) _, Nat.add_lt_add_left (by decide) _, Nat.add_lt_add_left (by decide) _, Nat.lt_add_of_pos_right (by decide), Nat.add_lt_add_left (by decide) _⟩
      have lowA : ∀ b ∈ ([s1.heap.objs.size] : List Addr), b < h'.objs.size := fun b hb => by
        rw [List.mem_singleton.mp hb]
        exact low5.2.2.2.1
      have lowB : ∀ b ∈ ([s1.heap.objs.size + 1] : List Addr), b < h'.objs.size := fun b hb => by
        rw [List.mem_singleton.mp hb]
        exact low5.2.2.2.2
      refine zl_call (s := { s1 with heap := h' }) (A := X.A) (zip_sep2 (fp1 := []) (fp2 := []) (by simp) (by simp)) (Draws.text hh s1.heap.objs.size x t) (Draws.text hh (s1.heap.objs.size + 1) y u) ⟨hTI, e1, e2', hz, _, _, hTO⟩
        low5 lowA lowB hx'
        fun h'' tk acc c as hk2 hS hl hG hacc => ?_
      obtain ⟨H', k1, k2, k3, k4, k5, k6, J⟩ := zips_laid (tk := tk) (lo := h'.objs.size) (ps := zipV x y) I1 (by rw [hsz]; exact Nat.le_add_right _ _) (by rw [zipV_len]; exact hx') (fun b o e => hk2 b o
          (Nat.ne_of_lt (Nat.lt_of_lt_of_le (Heap.lt_size e) (Nat.le_add_right _ _))) (Nat.ne_of_lt (Nat.lt_of_lt_of_le (Heap.lt_size e) (Nat.le_add_right _ _))) (Nat.ne_of_lt (Heap.lt_size e)) (Nat.ne_of_lt (Nat.lt_of_lt_of_le (Heap.lt_size e) (Nat.le_add_right _ _))) (hk b o e)) hS (by rw [zipV_len]; exact hl) hG.rise hG.above
        (fun j a q ea eq => by
          obtain ⟨x1, x2, ⟨c1, t1, ec1, rfl⟩, ⟨c2, t2, ec2, rfl⟩, f3⟩ := hG.pairs j a ea
          have ez : (zipV x y)[j]? = some (sg c1, sg c2) := by
            simp [zipV, List.zip, List.getElem?_zipWith, ec1, ec2]
          rw [ez] at eq
          cases eq
          exact ⟨_, _, ⟨t1, rfl⟩, ⟨t2, rfl⟩, f3⟩) hacc
      exact ⟨.ref _, H', J, rfl, q1 H' _ as k1 k2 k3 k4 k5 k6⟩
end
end FYR

namespace FY
inductive W1 where
  | no | twice | half | change | count
  deriving DecidableEq
inductive Tm where
  | inn
  | one (w : W1) (t : Tm)
  | late (b : Bool) (t : Tm)
  | byy (a b c d : Bool) (t u : Tm)
  | keep (t u : Tm)
  | thn (t u : Tm)
def Tm.nodes : Tm → Nat
  | .inn => 1
  | .one _ t => t.nodes + 1
  | .late _ t => t.nodes + 1
  | .byy _ _ _ _ t u => t.nodes + u.nodes + 1
  | .keep t u => t.nodes + u.nodes + 1
  | .thn t u => t.nodes + u.nodes + 1
theorem Tm.nodes_pos (t : Tm) : 1 ≤ t.nodes := by cases t <;> simp [Tm.nodes]
def halfL : List Bool → List Bool
  | _ :: y :: r => y :: halfL r
  | _ => []
def chgL (l : Bool) : List Bool → List Bool
  | [] => []
  | x :: r => (x != l) :: chgL x r
def cntL (l : Bool) : List Bool → List Bool
  | [] => []
  | x :: r => (x != l) :: cntL (x != l) r
def dblL : List Bool → List Bool
  | [] => []
  | x :: r => x :: x :: dblL r
def byL (a b c d : Bool) : List Bool → List Bool → List Bool
  | x :: r, y :: s => (if x then (if y then d else c) else (if y then b else a)) :: byL a b c d r s
  | _, _ => []
def keepL : List Bool → List Bool → List Bool
  | x :: r, y :: s => if y then x :: keepL r s else keepL r s
  | _, _ => []
def lateL (b : Bool) (f : List Bool) : List Bool := (b :: f).take f.length
def oneL : W1 → List Bool → List Bool
  | .no, f => f.map (!·)
  | .twice, f => dblL f
  | .half, f => halfL f
  | .change, f => chgL false f
  | .count, f => cntL false f
def flow : Tm → List Bool → List Bool
  | .inn, s => s
  | .one w t, s => oneL w (flow t s)
  | .late b t, s => lateL b (flow t s)
  | .byy a b c d t u, s => byL a b c d (flow t s) (flow u s)
  | .keep t u, s => keepL (flow t s) (flow u s)
  | .thn t u, s => flow u (flow t s)
/-! lengths -/
theorem halfL_len : ∀ f : List Bool, (halfL f).length ≤ f.length
  | [] => by simp [halfL]
  | [_] => by simp [halfL]
  | _ :: y :: r => by have := halfL_len r; simp [halfL]; omega
theorem chgL_len : ∀ (f : List Bool) (l : Bool), (chgL l f).length = f.length
  | [], _ => rfl
  | x :: r, l => by simp [chgL, chgL_len r x]
theorem cntL_len : ∀ (f : List Bool) (l : Bool), (cntL l f).length = f.length
  | [], _ => rfl
  | x :: r, l => by simp [cntL, cntL_len r]
theorem dblL_len : ∀ f : List Bool, (dblL f).length = 2 * f.length
  | [] => rfl
  | x :: r => by simp [dblL, dblL_len r]; omega
theorem byL_len (a b c d : Bool) : ∀ f g : List Bool, (byL a b c d f g).length ≤ f.length
  | [], _ => by simp [byL]
  | _ :: _, [] => by simp [byL]
  | x :: r, y :: s => by have := byL_len a b c d r s; simp [byL]; omega
theorem keepL_len : ∀ f g : List Bool, (keepL f g).length ≤ f.length
  | [], _ => by simp [keepL]
  | _ :: _, [] => by simp [keepL]
  | x :: r, y :: s => by have := keepL_len r s; cases y <;> simp [keepL] <;> omega
theorem lateL_len (b : Bool) (f : List Bool) : (lateL b f).length = f.length := by simp [lateL]
theorem oneL_len (w : W1) (f : List Bool) : (oneL w f).length ≤ 2 * f.length := by
  cases w with
  | no => simp [oneL]; omega
  | twice => simp [oneL, dblL_len]
  | half => have := halfL_len f; simp [oneL]; omega
  | change => simp [oneL, chgL_len]; omega
  | count => simp [oneL, cntL_len]; omega
theorem flow_len : ∀ (t : Tm) (s : List Bool), (flow t s).length ≤ 2 ^ (t.nodes - 1) * s.length := by
  intro t
  induction t with
  | inn => intro s; simp [flow, Tm.nodes]
  | one w t ih =>
    intro s
    have h1 := oneL_len w (flow t s)
    have h2 := ih s
    have h3 := t.nodes_pos
    have e : 2 ^ (t.nodes + 1 - 1) = 2 * 2 ^ (t.nodes - 1) := by
      rw [show t.nodes + 1 - 1 = (t.nodes - 1) + 1 by omega, Nat.pow_succ]; omega
    simp only [flow, Tm.nodes, e, Nat.mul_assoc]
    omega
  | late b t ih =>
    intro s
    have h2 := ih s
    have h3 := t.nodes_pos
    have e : 2 ^ (t.nodes + 1 - 1) = 2 * 2 ^ (t.nodes - 1) := by
      rw [show t.nodes + 1 - 1 = (t.nodes - 1) + 1 by omega, Nat.pow_succ]; omega
    simp only [flow, Tm.nodes, lateL_len, e, Nat.mul_assoc]
    omega
  | byy a b c d t u ih1 ih2 =>
    intro s
    have h1 := byL_len a b c d (flow t s) (flow u s)
    have h2 := ih1 s
    have h3 := t.nodes_pos
    have e : 2 ^ (t.nodes - 1) ≤ 2 ^ (t.nodes + u.nodes + 1 - 1) := Nat.pow_le_pow_right (by decide) (by omega)
    have e2 := Nat.mul_le_mul_right s.length e
    simp only [flow, Tm.nodes]
    omega
  | keep t u ih1 ih2 =>
    intro s
    have h1 := keepL_len (flow t s) (flow u s)
    have h2 := ih1 s
    have e : 2 ^ (t.nodes - 1) ≤ 2 ^ (t.nodes + u.nodes + 1 - 1) := Nat.pow_le_pow_right (by decide) (by omega)
    have e2 := Nat.mul_le_mul_right s.length e
    simp only [flow, Tm.nodes]
    omega
  | thn t u ih1 ih2 =>
    intro s
    have h1 := ih1 s
    have h2 := ih2 (flow t s)
    have h3 := t.nodes_pos
    have h4 := u.nodes_pos
    have e : 2 ^ (u.nodes - 1) * 2 ^ (t.nodes - 1) ≤ 2 ^ (t.nodes + u.nodes + 1 - 1) := by
      rw [← Nat.pow_add]; exact Nat.pow_le_pow_right (by decide) (by omega)
    have e1 := Nat.mul_le_mul_left (2 ^ (u.nodes - 1)) h1
    have e2 := Nat.mul_le_mul_right s.length e
    rw [← Nat.mul_assoc] at e1
    simp only [flow, Tm.nodes]
    omega
/-! beginnings -/
theorem halfL_pre : ∀ f g : List Bool, halfL f <+: halfL (f ++ g)
  | [], g => by simp [halfL]
  | [x], g => by simp [halfL]
  | x :: y :: r, g => by
    have := halfL_pre r g
    simpa [halfL, List.prefix_cons_inj] using this
theorem chgL_pre : ∀ (f g : List Bool) (l : Bool), chgL l f <+: chgL l (f ++ g)
  | [], g, l => by simp [chgL]
  | x :: r, g, l => by have := chgL_pre r g x; simpa [chgL, List.prefix_cons_inj] using this
theorem cntL_pre : ∀ (f g : List Bool) (l : Bool), cntL l f <+: cntL l (f ++ g)
  | [], g, l => by simp [cntL]
  | x :: r, g, l => by have := cntL_pre r g (x != l); simpa [cntL, List.prefix_cons_inj] using this
theorem dblL_pre : ∀ (f g : List Bool), dblL f <+: dblL (f ++ g)
  | [], g => by simp [dblL]
  | x :: r, g => by have := dblL_pre r g; simpa [dblL, List.prefix_cons_inj] using this
theorem byL_pre (a b c d : Bool) : ∀ (f g f' g' : List Bool), byL a b c d f g <+: byL a b c d (f ++ f') (g ++ g')
  | [], g, f', g' => by simp [byL]
  | x :: r, [], f', g' => by simp [byL]
  | x :: r, y :: s, f', g' => by have := byL_pre a b c d r s f' g'; simpa [byL, List.prefix_cons_inj] using this
theorem keepL_pre : ∀ (f g f' g' : List Bool), keepL f g <+: keepL (f ++ f') (g ++ g')
  | [], g, f', g' => by simp [keepL]
  | x :: r, [], f', g' => by simp [keepL]
  | x :: r, y :: s, f', g' => by
    have := keepL_pre r s f' g'
    cases y <;> simpa [keepL, List.prefix_cons_inj] using this
theorem lateL_pre (b : Bool) (f g : List Bool) : lateL b f <+: lateL b (f ++ g) := by
  unfold lateL
  have h : (b :: f).take f.length = ((b :: (f ++ g)).take (f ++ g).length).take f.length := by
    rw [List.take_take, Nat.min_eq_left (by simp)]
    cases f with
    | nil => rfl
    | cons x r =>
      simp only [List.length_cons, List.take_succ_cons, List.cons_append]
      congr 1
      rw [show (x :: (r ++ g)) = (x :: r) ++ g from rfl, List.take_append_of_le_length (by simp)]
  rw [h]
  exact List.take_prefix _ _
theorem oneL_pre (w : W1) (f g : List Bool) : oneL w f <+: oneL w (f ++ g) := by
  cases w with
  | no => simp [oneL]
  | twice => exact dblL_pre f g
  | half => exact halfL_pre f g
  | change => exact chgL_pre f g false
  | count => exact cntL_pre f g false
theorem flow_pre : ∀ (t : Tm) (s g : List Bool), flow t s <+: flow t (s ++ g) := by
  intro t
  induction t with
  | inn => intro s g; simp [flow]
  | one w t ih =>
    intro s g
    obtain ⟨r, hr⟩ := ih s g
    simp only [flow, ← hr]
    exact oneL_pre w _ _
  | late b t ih =>
    intro s g
    obtain ⟨r, hr⟩ := ih s g
    simp only [flow, ← hr]
    exact lateL_pre b _ _
  | byy a b c d t u ih1 ih2 =>
    intro s g
    obtain ⟨r, hr⟩ := ih1 s g
    obtain ⟨q, hq⟩ := ih2 s g
    simp only [flow, ← hr, ← hq]
    exact byL_pre a b c d _ _ _ _
  | keep t u ih1 ih2 =>
    intro s g
    obtain ⟨r, hr⟩ := ih1 s g
    obtain ⟨q, hq⟩ := ih2 s g
    simp only [flow, ← hr, ← hq]
    exact keepL_pre _ _ _ _
  | thn t u ih1 ih2 =>
    intro s g
    obtain ⟨r, hr⟩ := ih1 s g
    simp only [flow, ← hr]
    exact ih2 _ _
theorem flow_nil : ∀ t : Tm, flow t [] = [] := by
  intro t
  have h := flow_len t []
  simpa using h
end FY

set_option Elab.async false
set_option linter.all false
set_option maxRecDepth 100000
set_option maxHeartbeats 4000000
namespace FY
open PySem L2 FYR
def cd (b : Bool) : Nat := if b then 49 else 48
def sgn (b : Bool) : Str := ⟨#[cd b]⟩
def tx (bs : List Bool) : Str := ⟨(bs.map cd).toArray⟩
theorem cd_inj {a b : Bool} (h : cd a = cd b) : a = b := by cases a <;> cases b <;> first | rfl | (exact absurd h (by decide))
theorem tx_inj {a b : List Bool} (h : tx a = tx b) : a = b := by
  have h1 : a.map cd = b.map cd := by
    have := congrArg Str.cps h
    simpa [tx] using this
  exact (List.map_inj_right (fun x y => cd_inj)).mp h1
theorem tx_eq (a b : List Bool) : decide (V.str (tx a) = V.str (tx b)) = decide (a = b) := by
  by_cases h : a = b
  · subst h; simp
  · rw [decide_eq_false h, decide_eq_false]
    intro q
    exact h (tx_inj (V.str.inj q))
theorem sgn_tx (b : Bool) : sgn b = tx [b] := rfl
theorem s0 : ("0" : Str) = sgn false := by decide +kernel
theorem s1 : ("1" : Str) = sgn true := by decide +kernel
theorem se : ("" : Str) = tx [] := by decide +kernel
theorem tx_size (bs : List Bool) : (tx bs).cps.size = bs.length := by simp [tx]
theorem tx_len (bs : List Bool) : (tx bs).length = bs.length := tx_size bs
theorem tx_get (bs : List Bool) (i : Nat) : (tx bs).cps[i]? = (bs[i]?).map cd := by simp [tx]
theorem tx_app (a b : List Bool) : tx a ++ tx b = tx (a ++ b) := by
  show (⟨(tx a).cps ++ (tx b).cps⟩ : Str) = _
  simp [tx]
theorem str_ext {a b : Str} (h : a.cps.toList = b.cps.toList) : a = b := by
  obtain ⟨x⟩ := a
  obtain ⟨y⟩ := b
  exact congrArg Str.mk (Array.toList_inj.mp h)
theorem tx_toList (bs : List Bool) : (tx bs).cps.toList = bs.map cd := by simp [tx]
theorem join_def (sep : Str) (ys : List Str) : Txt.join sep ys = Str.join sep ys := by
  have h := PyProof.Rows.join_closes (sep := sep) (sep' := sep) (ys := ys) rfl
  simpa using h
theorem join_tx : ∀ (ys : List (List Bool)), Txt.join (tx []) (ys.map tx) = tx ys.flatten := by
  intro ys
  rw [join_def]
  induction ys with
  | nil => rfl
  | cons y r ih =>
    cases r with
    | nil =>
      show tx y = tx [y].flatten
      simp
    | cons z r =>
      show tx y ++ tx [] ++ Str.join (tx []) ((z :: r).map tx) = _
      rw [ih, tx_app, tx_app]
      simp
theorem flat_sgn (bs : List Bool) : (bs.map fun b => [b]).flatten = bs := by
  induction bs with
  | nil => rfl
  | cons b r ih => simp [ih]
theorem join_sgn (bs : List Bool) : Txt.join (tx []) (bs.map sgn) = tx bs := by
  have h := join_tx (bs.map fun b => [b])
  rw [flat_sgn, List.map_map] at h
  exact h
theorem cut_tx (bs : List Bool) (lo hi : Option Int) : cutS (tx bs) lo hi = tx ((bs.drop (HT.sIx bs.length 0 lo)).take (HT.sIx bs.length bs.length hi - HT.sIx bs.length 0 lo)) := by
  apply str_ext
  rw [tx_toList]
  unfold cutS
  rw [tx_len, tx_toList]
  simp [List.map_take, List.map_drop]
theorem cut_to (bs : List Bool) (k : Nat) : cutS (tx bs) none (some (k : Int)) = tx (bs.take k) := by
  rw [cut_tx, HT.sIx_none, HT.sIx_nat]
  congr 1
  simp only [List.drop_zero, Nat.sub_zero]
  rw [← List.take_take, List.take_of_length_le (Nat.le_refl _)]
theorem step_tx (bs : List Bool) : stepS (tx bs) (some 1) none 2 = tx (halfL bs) := by
  have e1 : Builtin.Str.strSliceIndices (some 1) none 2 bs.length = (List.range (bs.length / 2)).map fun k => 2 * k + 1 := by
    unfold Builtin.Str.strSliceIndices sliceRange
    simp only [show ((2 : Int) > 0) = True from by simp, if_true]
    have hc : max 0 (min (if (1 : Int) < 0 then 1 + (bs.length : Int) else 1) (bs.length : Int)) = min 1 (bs.length : Int) := by
      rw [if_neg (by decide)]; omega
    rw [hc]
    by_cases h : min (1 : Int) bs.length < bs.length
    · rw [if_pos h]
      have e2 : (((bs.length : Int) - min 1 (bs.length : Int) + 2 - 1) / 2).toNat = bs.length / 2 := by omega
      rw [e2]
      refine List.map_congr_left fun k _ => ?_
      omega
    · rw [if_neg h]
      have e2 : bs.length / 2 = 0 := by omega
      simp [e2]
  unfold stepS
  rw [if_neg (by simp), tx_len, e1]
  apply str_ext
  rw [tx_toList]
  show List.filterMap _ _ = _
  rw [List.filterMap_map]
  clear e1
  have key : ∀ (n : Nat) (l : List Bool), l.length ≤ n → List.filterMap ((fun x => (tx l).cps[x]?) ∘ fun k => 2 * k + 1) (List.range (l.length / 2)) = (halfL l).map cd := by
    intro n
    induction n with
    | zero =>
      intro l hl
      cases l with
      | nil => rfl
      | cons _ _ => simp at hl
    | succ n ih =>
      intro l hl
      match l, hl with
      | [], _ => rfl
      | [x], _ => simp [halfL]
      | x :: y :: r, hl =>
        have e : (x :: y :: r).length / 2 = r.length / 2 + 1 := by simp only [List.length_cons]; omega
        rw [e, List.range_succ_eq_map, List.filterMap_cons]
        have e0 : ((fun i => (tx (x :: y :: r)).cps[i]?) ∘ fun k => 2 * k + 1) 0 = some (cd y) := by
          show (tx (x :: y :: r)).cps[1]? = _
          rw [tx_get]; rfl
        rw [e0]
        show cd y :: _ = cd y :: _
        congr 1
        rw [List.filterMap_map]
        have hr := ih r (by simp only [List.length_cons] at hl; omega)
        rw [← hr]
        congr 1
        funext k
        show (tx (x :: y :: r)).cps[2 * (k + 1) + 1]? = (tx r).cps[2 * k + 1]?
        rw [tx_get, tx_get, show 2 * (k + 1) + 1 = (2 * k + 1) + 1 + 1 by omega]
        rfl
  exact key bs.length bs (Nat.le_refl _)
theorem starts_tx (a b : List Bool) : Txt.startswith (tx a) (tx b) = decide (b <+: a) := by
  unfold Txt.startswith Builtin.Str.subAt
  rw [tx_len, tx_len, Nat.zero_add]
  by_cases h : b <+: a
  · obtain ⟨r, rfl⟩ := h
    rw [decide_eq_true (List.prefix_append b r)]
    simp [tx]
  · rw [decide_eq_false h]
    by_cases hl : b.length ≤ a.length
    · have hn : ((tx a).cps.extract 0 b.length == (tx b).cps) = false := by
        rw [beq_eq_false_iff_ne]
        intro q
        apply h
        have q2 := congrArg Array.toList q
        have q3 : (a.take b.length).map cd = b.map cd := by simpa [tx, List.map_take] using q2
        have q4 := (List.map_inj_right (fun x y => cd_inj)).mp q3
        rw [← q4]
        exact List.take_prefix _ _
      rw [hn]; simp
    · simp [hl]
theorem int_sgn (b : Bool) : PySem.intText? (sgn b) = some (if b then 1 else 0) := by
  cases b <;> decide +kernel
theorem str_bit (b : Bool) : ((toString (if b then (1 : Int) else 0) : String) : Str) = sgn b := by
  cases b <;> decide +kernel
end FY

set_option Elab.async false
set_option linter.all false
set_option maxRecDepth 100000
set_option maxHeartbeats 4000000
/-! further rules: zip of two texts, extend by a tuple, text * int, calls by keywords alone -/
namespace FYR
open PySem PySem.Spec PyProof.Rows L2

/-! ### zip of two texts -/
def Itzs (x y : Str) : It :=
  ⟨fun i _ => i < min x.cps.size y.cps.size,
    fun i H v H' => ∃ (T : Addr) (c d : Nat), v = .ref T ∧ H T = none ∧ H' = upd H T (.tup [.str ⟨#[c]⟩, .str ⟨#[d]⟩]) ∧ x.cps[i]? = some c ∧ y.cps[i]? = some d,
    fun i _ => i = min x.cps.size y.cps.size⟩
theorem turn_zipS {P : Program} {w : World} {K : PySem.W.Frag} {elts : List Expr} {kk : Nat} {tpos : Pos} {x y : Str} {t u : Tok} {z TI TO i1 i2 : Addr} (S : ZipSep2 z TI TO i1 i2 [i1] [i2]) :
    Turn P w K (.Tuple elts kk tpos) (Itzs x y) (z :: TI :: TO :: ([i1] ++ [i2])) z (fun i h => IsZip h z TI TO .none ∧ IsTupOf2 h TI (.ref i1) (.ref i2) ∧ (∃ a1 a2, IsTupOf2 h TO a1 a2) ∧ h.IsStrIter i1 (strIterType x) x t i ∧ h.IsStrIter i2 (strIterType y) y u i) where
  mem := by simp
  obj := fun i h st c hc => by
    obtain ⟨hz, hTI, ⟨x', y', hTO⟩, ⟨o1, e1, _, d1⟩, ⟨o2, e2, _, d2⟩⟩ := st
    have e' : c = z ∨ c = TI ∨ c = TO ∨ c = i1 ∨ c = i2 := by simpa using hc
    rcases e' with q | q | q | q | q
    · rw [q]; exact ⟨_, hz, fun v q => nomatch q⟩
    · rw [q]; exact ⟨_, hTI, fun v q => nomatch q⟩
    · rw [q]; exact ⟨_, hTO, fun v q => nomatch q⟩
    · rw [q]; exact ⟨o1, e1, fun v q => by rw [d1] at q; cases q⟩
    · rw [q]; exact ⟨o2, e2, fun v q => by rw [d2] at q; cases q⟩
  keep := fun i h h' st k => by
    obtain ⟨hz, hTI, ⟨x', y', hTO⟩, ⟨o1, e1, c1, d1⟩, ⟨o2, e2, c2, d2⟩⟩ := st
    exact ⟨k z (by simp) _ hz, k TI (by simp) _ hTI, ⟨x', y', k TO (by simp) _ hTO⟩, ⟨o1, k i1 (by simp) _ e1, c1, d1⟩, ⟨o2, k i2 (by simp) _ e2, c2, d2⟩⟩
  item := by
    intro X hP hw hK hc i pins s σ H E I hf st hg
    subst hP hw hK
    have hh : X.A.in1.handled = none := I.ok.hd hc
    have W := WalksT.zipD2 (prog := X.prog) (w := X.w) (A := X.A) S (Draws.text hh i1 x t) (Draws.text hh i2 y u)
    refine W.item i s _ _ hg st fun T vals h' tk hp hT ht mid hk => ?_
    obtain ⟨x1, x2, ⟨c, t1, hc1, rfl⟩, ⟨d, t2, hd1, rfl⟩, rfl⟩ := hp
    refine ⟨_, rfl, W.go elts kk tpos i T { s with heap := h', toks := tk } _ _ mid fun h'' st'' hk2 => ?_⟩
    obtain ⟨oT, eT, cT, nT, dT⟩ := ht
    have hT2 : h''.get? T = some oT := hk2 _ _ (W.apart _ _ _ mid) eT
    have new : ObjOk X.prog X.w (upd H T (.tup [.str ⟨#[c]⟩, .str ⟨#[d]⟩])) h'' T (.tup [.str ⟨#[c]⟩, .str ⟨#[d]⟩]) :=
      ⟨by show 2 ≤ sizeLine; decide, [_, _], .cons ⟨_, rfl⟩ (.cons ⟨_, rfl⟩ .nil), ⟨_, hT2, cT, nT, dT⟩⟩
    have sub : ∀ b ∈ ([z, TO, i1, i2] : List Addr), b ∈ (z :: TI :: TO :: ([i1] ++ [i2])) := fun b hb => W.sub b hb
    have I1 : Inv X pins σ (upd H T (.tup [.str ⟨#[c]⟩, .str ⟨#[d]⟩])) { s with heap := h'', toks := tk } :=
      I.turnedNew (t' := tk) (ch := [z, TO, i1, i2]) (fun c o hb q => hk2 c o hb (hk c o hb q)) (fun b hb => hf b (sub b hb)) hT new
    refine ⟨.ref T, _, I1, rfl, ⟨T, c, d, rfl, I.hok.fresh hT, rfl, hc1, hd1⟩, st'', fun b hb => ?_⟩
    have hlt : b < s.heap.objs.size := by
      obtain ⟨hz, hTI, ⟨x', y', hTO⟩, ⟨o1, e1, c1, d1⟩, ⟨o2, e2, c2, d2⟩⟩ := st
      have e' : b = z ∨ b = TI ∨ b = TO ∨ b = i1 ∨ b = i2 := by simpa using hb
      rcases e' with q | q | q | q | q
      · rw [q]; exact Heap.lt_size hz
      · rw [q]; exact Heap.lt_size hTI
      · rw [q]; exact Heap.lt_size hTO
      · rw [q]; exact Heap.lt_size e1
      · rw [q]; exact Heap.lt_size e2
    rw [upd_ne (Nat.ne_of_lt (Nat.lt_of_lt_of_le hlt hT))]
    exact (hf b hb).1
  done := by
    intro X hP hw hK hc i pins s σ H E I hf st hg
    subst hP hw hK
    have hh : X.A.in1.handled = none := I.ok.hd hc
    have W := WalksT.zipD2 (prog := X.prog) (w := X.w) (A := X.A) S (Draws.text hh i1 x t) (Draws.text hh i2 y u)
    have sub : ∀ b ∈ ([z, TO, i1, i2] : List Addr), b ∈ (z :: TI :: TO :: ([i1] ++ [i2])) := fun b hb => W.sub b hb
    have hi : i = min x.cps.size y.cps.size := hg
    subst hi
    exact W.done s _ _ st fun h' tk hk => ⟨rfl, I.turnedL (t' := tk) (ch := [z, TO, i1, i2]) (fun c o hb q => hk c o hb q) (fun b hb => hf b (sub b hb))⟩
  self := fun A i s Q E st h => wpAny_pyIter_zip st.1 h

def iZipS (ta : TA) : TI := fun σ H R => ta σ H fun vs H1 => ∃ x y, vs = [.str x, .str y] ∧ R (Itzs x y) H1
theorem pi_zipS {X : Cx} {e e2 : Expr} {ta : TA} {p pos tpos : Pos} {elts : List Expr} {kk : Nat} (hg : Gl X "zip") (hm : X.mg "zip" = none) (ha : PA X [e, e2] ta)
    (hs : starEach [e, e2] X.env = (false, eval e X.env) :: starEach [e2] X.env := by rfl) (hpl : (backTo pos (starEach [e2] X.env)).any (·.1) = false := by rfl) :
    PI X (.Tuple elts kk tpos) (.Call (.Name "zip" p) [e, e2] [] pos) (iZipS ta) := by
  refine ⟨fun pins s σ H R I h => ?_⟩
  refine Call_ (ld_blt I hg hm PyProof.Rows.boot_zip (PyProof.Rows.callWith_type1 (thn (ha.run pos pins s σ H _ I h) fun us s1 ⟨vs, H1, I1, r1, q1⟩ => ?_) hs hpl))
  obtain ⟨x, y, ex, q1⟩ := q1
  subst ex
  cases r1 with
  | cons r rr =>
    cases rr with
    | cons r' rr =>
      cases rr
      obtain ⟨t, rfl⟩ := r
      obtain ⟨u, rfl⟩ := r'
      have fresh5 : ∀ c, c ∈ ((s1.heap.objs.size + 4) :: (s1.heap.objs.size + 2) :: (s1.heap.objs.size + 3) :: ([s1.heap.objs.size] ++ [s1.heap.objs.size + 1])) → FpOk X pins H1 c := fun c hcm => by
        have e' : c = s1.heap.objs.size + 4 ∨ c = s1.heap.objs.size + 2 ∨ c = s1.heap.objs.size + 3 ∨ c = s1.heap.objs.size ∨ c = s1.heap.objs.size + 1 := by simpa using hcm
        have hle : s1.heap.objs.size ≤ c := by
          rcases e' with z | z | z | z | z
          · rw [z]; exact Nat.le_add_right _ _
          · rw [z]; exact Nat.le_add_right _ _
          · rw [z]; exact Nat.le_add_right _ _
          · rw [z]; exact Nat.le_refl _
          · rw [z]; exact Nat.le_add_right _ _
        exact I1.fpOk hle (I1.hok.fresh hle)
      refine zip_begins2 (begins_text x t) (begins_text y u) trivial trivial fun h' hz hTI hTO h1 h2 hsz hk => wpAny_pyIter_zip hz ?_
      have I2 : Inv X pins σ H1 { s1 with heap := h' } := I1.kept (t' := s1.toks) hk
      exact ⟨s1.heap.objs.size + 4, _, _, _, H1, rfl, I2, turn_zipS (x := x) (y := y) (t := t) (u := u) (zip_sep2 (fp1 := []) (fp2 := []) (by simp) (by simp)), ⟨hz, hTI, ⟨_, _, hTO⟩, ⟨_, h1, rfl, rfl⟩, ⟨_, h2, rfl, rfl⟩⟩, fresh5, q1⟩
theorem walk_zipS {x y : Str} : Walk (Itzs x y) (min x.cps.size y.cps.size) (fun _ => True) (fun i H v H' => ∃ (T : Addr) (c d : Nat), v = .ref T ∧ H T = none ∧ H' = upd H T (.tup [.str ⟨#[c]⟩, .str ⟨#[d]⟩]) ∧ x.cps[i]? = some c ∧ y.cps[i]? = some d) :=
  ⟨fun _ _ hi _ => hi, fun _ _ => rfl, fun _ _ _ _ _ _ y => y⟩

/-! ### extend by a tuple -/
theorem list_extend_tup (l : Addr) (items : Array Value) (n : Nat) (b : Addr) (items2 : Array Value) (n2 : Nat) (db : Option Addr) (sb : Array (Option Value)) (hs0 : ¬(!items.isEmpty && Builtin.List.listTooLong (items.size + items2.size)) = true) (hs1 : items.size ≤ sizeLine) (hs2 : items.size + items2.size ≤ sizeLine + 1) :
    Meets (Builtin.«list.extend» ⟨[.ref l, .ref b], []⟩) (fun _ R s => s.heap.get? l = some { cls := .type "list", dict := none, data := .seq items n, slots := #[] } ∧ s.heap.get? b = some { cls := .type "tuple", dict := db, data := .seq items2 n2, slots := sb } ∧ R (.ok (.ret Value.none)) { s with heap := s.heap.update l (Obj.mapSeq fun x => x ++ items2), toks := s.toks }) :=
  .of_wp fun prog w A R s h => by
    obtain ⟨hp, g, d, tk, os⟩ := s; obtain ⟨hl, hb, h⟩ := h; have f1 := AutoSeq1.idx_int; have f2 := AutoSeq1.sub_tuple_tuple; have f3 := AutoSeq1.sub_list_list; have f4 := AutoSeq1.sub_tuple_list; have f5 := AutoSeq1.sub_list_tuple;
    have hz' : (items ++ items2).size ≤ sizeLine + 1 := by rw [Array.size_append]; exact hs2
    wp_walk using (wpAny_updateSeq hl rfl (hz := hs1) (_hz' := hz')), AutoSeq1.wpAny_loadPart' hl, AutoSeq1.wpAny_loadPart' hb; exact ⟨_, rfl, h⟩
def rExtendT (K : PySem.W.Frag) : V → List V → Hp → VK → Prop := fun x vs H Q => ∃ l b xs zs, x = .ref l ∧ vs = [.ref b] ∧ H l = some (.lst xs) ∧ SqT K H b zs ∧ xs.length + zs.length ≤ sizeLine ∧ Q .non (upd H l (.lst (xs ++ zs)))
theorem mt_extendT {X : Cx} : MtM X "list.extend" (rExtendT X.K) := by
  intro pins s σ H x vs v us Q I rx rv h
  obtain ⟨l, b, xs, zs, rfl, rfl, hH, hB, hz, q⟩ := h
  cases rx
  obtain ⟨u, rfl, ru⟩ := rv.one
  cases ru
  obtain ⟨z, its, n, r, hl, e⟩ := I.lstM hH
  obtain ⟨its2, r2, p2, z2⟩ := I.tuple hB
  have l2 := r2.length
  obtain ⟨o2, e2, c2, n2, d2⟩ := p2
  have hsz : its.toArray.size + its2.toArray.size ≤ sizeLine := by rw [List.size_toArray, List.size_toArray]; omega
  have hlong : ¬ (!its.toArray.isEmpty && Builtin.List.listTooLong (its.toArray.size + its2.toArray.size)) = true := by
    rw [notLongL hsz, Bool.and_false]
    exact Bool.false_ne_true
  obtain ⟨cls2, db, dat2, sb⟩ := o2
  have c2' : cls2 = .type "tuple" := c2
  have d2' : dat2 = .seq its2.toArray n2 := d2
  subst c2' d2'
  refine call_meets F.slot_list_extend ⟨_, e, rfl⟩ F.entry_list_extend (F.args_list_extend_2 _ _)
    (list_extend_tup l its.toArray n b its2.toArray n2 db sb hlong (by rw [List.size_toArray]; omega) (by omega)) ⟨e, e2, ?_⟩
  refine ⟨.non, _, I.lset (its' := its ++ its2) hH e (by simp) (r.append r2) ?_, rfl, q⟩
  rw [List.length_append]
  omega

/-! ### text * int -/
def rMulS : R2 := fun x y H Q => ∃ z k, x = .str z ∧ y = .int k ∧ MulOk z k ∧ Q (.str (Txt.mul z k)) H
theorem op_mul_str {X : Cx} : OpR X (binaryOp .Mult) rMulS := by
  intro pins s σ H x y v u Q I rx ry h
  obtain ⟨z, k, rfl, rfl, hok, q⟩ := h
  obtain ⟨t, rfl⟩ := rx
  obtain ⟨t', rfl⟩ := ry
  exact SB.mul hok fun t' k => ⟨.str _, H, I.tok _, ⟨_, rfl⟩, q⟩

/-! ### f(k = v, ..) -/
section
variable {X : Cx} {CX : CXT} {k : Nat} {f C : Addr} {fd : FuncData} {ps ks : List Str} {sp : Sp} {E : XK} {x m : Str} {p pos apos kpos : Pos} {kws : List Keyword} {tk : TA} {g : List Value → List Value → List Value} {gV : List V → List V → List V}
def tCallN0 (n : Nat) (sp : Sp) (gV : List V → List V → List V) (E : XK) (tk : TA) : TE := fun σ H Q => tk σ H fun zs H2 => zs.length = n ∧ sp (gV [] zs) H2 Q E
theorem pe_callN0 (F : FnOk X.prog X.w X.K X.mg X.base CX k f fd ps sp) (hr : Room k X.A) (hg : Gl X x) (hm : X.mg x = some (.ref f)) (hk : PySem.W.keepIn X.K (.ref f) = true) (hb : KBn X.K fd ps 0 ks g gV) (hx : Passes CX X E)
    (hkw : PK X kws tk) (hall : (backToKw pos (keywordEach kws X.env)).all (·.1.isSome) = true := by rfl) (hks : (backToKw pos (keywordEach kws X.env)).filterMap (·.1) = ks := by rfl)
    (hdb : (x == ("__debug__" : Str)) = false := by decide)
    (hpl : ((backTo pos (starEach [] X.env)).any (·.1) || (backToKw pos (keywordEach kws X.env)).any (·.1.isNone)) = false := by rfl) :
    PE X (.Call (.Name x p) [] kws pos) (tCallN0 ks.length sp gV E tk) := by
  refine ⟨fun pins s σ H Q I h => ?_⟩
  refine wpAny_Call_Name_kw (ld_glob I hg hm ?_ hdb)
  refine PySem.W.callWith_KW0 (h₀ := X.base) I.ok.mod.kin hk hall ?_ hpl
  refine thn (hkw.run pos pins s σ H _ I h) fun ws s2 ⟨zs, H2, I2, rz, l2, q2⟩ => ⟨I2.kIn, ?_⟩
  rw [hks]
  exact run_fnN (us := []) (vs := []) F hr hb hx I2 .nil rz rfl l2 q2
end
end FYR

set_option Elab.async false
set_option linter.all false
set_option maxRecDepth 100000
set_option maxHeartbeats 4000000
/-! defs whose promise leans on «no repr is under way» (A.guards = some []): FnG; repr of data -/
namespace FYR
open PySem PySem.Spec PyProof.Rows L2
structure FnG (P : Program) (w : World) (K : PySem.W.Frag) (mg : Str → Option Value) (base : Heap) (k : Nat) (f : Addr) (fd : FuncData) (ps : List Str) (sp : Sp) : Prop where
  len : ∀ vs H Q E, sp vs H Q E → vs.length = ps.length
  run : ∀ (A : Around) (outer : List Env) (s : Shared) (H : Hp) (args : Args) (us : List Value) (vs : List V) (Q : VK) (E : XK), A.guards = some [] → Room k A → Env0 P w K mg base A outer s H → BindsTo s fd args (ps.zip us) → Vals vs us → sp vs H Q E →
    codeAny (model P w) A (.call (.ref f) args) (CR CX0 outer P w H s Q E) s
section
variable {P : Program} {w : World} {K : PySem.W.Frag} {mg : Str → Option Value} {base : Heap}
theorem fnG_of {x qual : Str} {st : Stmt} {f : Addr} {fd : FuncData} {N ps : List Str} {k : Nat} {sp : Sp} (F : Fun K x qual st f fd) (S : FnScope N ps (defScope st)) (len : ∀ vs H Q E, sp vs H Q E → vs.length = ps.length)
    (hbody : ∀ (cdv : Value) (A : Around) (outer : List Env) (s : Shared) (H : Hp) (vs : List V) (Q : VK) (E : XK), A.guards = some [] → Room k (A.deeper (envOfC qual (defScope st) s.heap.objs.size f cdv)) → sp vs H Q E →
      ∃ t, PSs (cxOf CX0 P w K mg base N qual (defScope st) f cdv A outer s H E).nox (defBody st) t ∧ t { nx := fun _ H' => Q .non H', rt := Q } (start N vs) H) : FnG P w K mg base (k + 1) f fd ps sp := by
  obtain ⟨oc, od, kV, doc, pm, an, cdv, ct, osl, rfl, lk, hcd⟩ := F.ex
  refine ⟨len, fun A outer s H args us vs Q E hgd hr e0 hb r hsp => ?_⟩
  have hl := len _ _ _ _ hsp
  have kin : K.In s.heap := e0.mod.kin.keeps fun b o e => (e0.bs b o e).1
  have nolim : s.heap.NoLimit := e0.mod.nolimit.keeps fun b o e => (e0.bs b o e).1
  have kinds : ∀ y ∈ ps.zip us, (defScope st).names.lookup y.1 = some .local ∨ ((defScope st).names.lookup y.1 = some .cell ∧ ((cellsFrom (s.heap.objs.size + 1) (defScope st).names []).lookup y.1).isSome = true) := by
    rintro ⟨n, v⟩ hy
    exact (S.par n (List.of_mem_zip hy).1).imp id fun q => ⟨q, PySem.W.cellsFrom_some _ _ _ (.inl q)⟩
  refine codeAny_call_function hr.depth (kin _ _ lk) rfl S.co S.gen rfl (PySem.W.codeRec_of kin hcd) (hb _ _ _ _ ?_)
  refine wpAny_newFunctionEnv_cells S.kind kinds fun env he s1 x => ?_
  subst he
  refine ⟨nolim.keeps x.toInCall.keep, codeAny_func ?_⟩
  obtain ⟨t, ht, hq⟩ := hbody cdv A outer s H vs Q E hgd (hr.deeper _) hsp
  have I : Inv (cxOf CX0 P w K mg base N qual (defScope st) f cdv A outer s H E) [] (start N vs) H s1 := inv_start S hr.hd e0 hl r x
  refine wpAny_mono (ht.nox.run [] s1 (start N vs) H _ I hq) (fun fl s' hs => ?_) fun e s' hs => hs
  cases fl with
  | ret u =>
    obtain ⟨v, σ', H', J, rv, q⟩ := hs
    exact ⟨v, H', J.os, J.bare, J.base, J.hok, rv, q⟩
  | next =>
    obtain ⟨σ', H', J, q⟩ := hs
    exact ⟨.non, H', J.os, J.bare, J.base, J.hok, rfl, q⟩
  | brk =>
    obtain ⟨_, _, _, q⟩ := hs
    exact q.elim
  | cont =>
    obtain ⟨_, _, _, q⟩ := hs
    exact q.elim
end
section
variable {X : Cx} {k : Nat} {f : Addr} {fd : FuncData} {ps : List Str} {sp : Sp} {x : Str} {p pos : Pos} {e : Expr} {es : List Expr} {t : TA}
theorem pe_callG (F : FnG X.prog X.w X.K X.mg X.base k f fd ps sp) (hgd : X.A.guards = some []) (hr : Room k X.A) (hg : Gl X x) (hm : X.mg x = some (.ref f)) (hk : PySem.W.keepIn X.K (.ref f) = true) (hb : Binds X.K fd ps [])
    (ha : PA X (e :: es) t) (hdb : (x == ("__debug__" : Str)) = false := by decide) (he : starEach (e :: es) X.env = (false, eval e X.env) :: starEach es X.env := by rfl) (hpl : (backTo pos (starEach es X.env)).any (·.1) = false := by rfl) :
    PE X (.Call (.Name x p) (e :: es) [] pos) (tCall sp [] E0 t) := by
  refine ⟨fun pins s σ H Q I h => ?_⟩
  refine wpAny_Call_Name_kw (ld_glob I hg hm ?_ hdb)
  refine PySem.W.callWith_K (h₀ := X.base) I.ok.mod.kin hk (thn (ha.run pos pins s σ H _ I h) fun us s1 ⟨vs, H1, I1, r, q⟩ => ⟨I1.kIn, ?_⟩) he hpl
  simp only [List.append_nil] at q
  show wpAny (model X.prog X.w) X.A (call (.ref f) us) (EP X pins σ Q) X.xe s1
  have hl : us.length = ps.length := by rw [← r.length]; exact F.len _ _ _ _ q
  refine wpAny_call (codeAny_mono (F.run X.A X.stack s1 H1 ⟨us, []⟩ us vs Q E0 hgd hr I1.env0 (by have z := hb s1 us I1.kIn (by rw [List.append_nil]; exact hl); rw [List.append_nil] at z; exact z) r q) fun r s' hq => ?_)
  cases r with
  | error e => exact False.elim hq
  | ok fl =>
    cases fl with
    | ret u => exact I1.after hq
    | next => exact False.elim hq
    | brk => exact False.elim hq
    | cont => exact False.elim hq

/-! ### repr of data -/
def rReprD (K : PySem.W.Frag) : List V → Hp → VK → Prop := fun xs H Q => ∃ (v : V) (d : PyData), xs = [v] ∧ Dp K H v d ∧ d.showable = true ∧ d.hasDict = false ∧ d.depth ≤ 30 ∧ d.shown.length ≤ sizeLine ∧ Q (.str d.shown) H
theorem call_reprD (hgd : X.A.guards = some []) (hr : Room k X.A) : CallR X (.builtin "repr") (rReprD X.K) := by
  intro pins s σ H xs us Q I rv h
  obtain ⟨v, d, rfl, hd, h1, h2, h3, h4, q⟩ := h
  obtain ⟨u, rfl, ru⟩ := rv.one
  have hu := hr.units
  have big : ∀ a, v = .ref a → wpAny (model X.prog X.w) X.A (call (.builtin "repr") [u]) (EP X pins σ Q) X.xe s := by
    rintro a rfl
    obtain ⟨as, rd⟩ := Dp.reads I d _ u hd ru
    cases ru
    exact repr_of_reads' rd h1 (PyData.noDict_hsm h2) hgd (by omega) (fun _ _ e => e) (fun h' t tk hk => ⟨.str _, H, I.kept (t' := tk) hk, ⟨_, rfl⟩, q⟩) h4
  cases hd with
  | non =>
    cases ru
    rw [PyData.shown_none] at q
    exact PySem.P.repr_of_none ⟨.str _, H, I.tok _, ⟨_, rfl⟩, q⟩
  | bl b =>
    cases ru
    rw [PyData.shown_bool] at q
    refine PySem.P.repr_of_bool ⟨.str _, H, I.tok _, ⟨_, rfl⟩, ?_⟩
    cases b <;> exact q
  | int i =>
    obtain ⟨t, rfl⟩ := ru
    rw [PyData.shown_int] at q
    exact PySem.P.repr_of_int (by simpa [PyData.showable] using h1) ⟨.str _, H, I.tok _, ⟨_, rfl⟩, q⟩
  | str y =>
    obtain ⟨t, rfl⟩ := ru
    rw [PyData.shown_str] at q h4
    exact PySem.P.repr_of_str ⟨.str _, H, I.tok _, ⟨_, rfl⟩, q⟩ h4
  | lst _ _ => exact big _ rfl
  | tup _ _ => exact big _ rfl
end
/-! ### the end of a law row over FnG -/
theorem law_callG {P : Program} {w : World} {K : PySem.W.Frag} {mg mb : Str → Option Value} {k : Nat} {fa a : Addr} {fd : FuncData} {x : Str} {sp : Sp} {s₁ : Shared} {vs : List Value} {ns : List Int}
    (KX : K.In s₁.heap) (hns : s₁.heap.Ns mainGlobals mg) (hb : s₁.heap.Ns builtinsNs mb) (hbb : ∀ x : Str, x ≠ "__name__" → mb x = bootBuiltins x) (hlim : s₁.heap.NoLimit) (hg : s₁.gens = #[])
    (ha : s₁.heap.get? a = some { cls := .type "list", data := .seq vs.toArray }) (hi : IntsAre vs ns) (hl : ns.length ≤ sizeLine) (hr : Room k callerA)
    (F : ∀ base : Heap, K.In base → base.Ns mainGlobals mg → FnG P w K mg base k fa fd [x] sp) (hbind : ∀ (s : Shared) (u : Value), BindsTo s fd ⟨[u], []⟩ [(x, u)])
    (hsp : ∀ H : Hp, Only H → SqL K H a (ns.map V.int) → sp [.ref a] H (fun v _ => v = .bl true) fun _ _ _ => False) :
    codeAny (model P w) callerA (.call (.ref fa) ⟨[.ref a], []⟩) (fun r s' => r = .ok (.ret (.bool true)) ∧ OldK s₁.heap s'.heap ∧ s'.os = s₁.os ∧ AllBare s'.gens) s₁ := by
  have rv := vals_ints hi
  have core : ∀ H : Hp, Only H → SqL K H a (ns.map V.int) → HOk P w H s₁.heap → (∀ b, H b ≠ none → b = a ∧ K.lookup a = none) →
      codeAny (model P w) callerA (.call (.ref fa) ⟨[.ref a], []⟩) (fun r s' => r = .ok (.ret (.bool true)) ∧ OldK s₁.heap s'.heap ∧ s'.os = s₁.os ∧ AllBare s'.gens) s₁ := by
    intro H hO hS hok hA
    have free : ∀ {b : Addr}, (∀ q : b = a, K.lookup a = none → False) → H b = none := fun {b} z => by
      cases q : H b with
      | none => rfl
      | some u =>
        obtain ⟨e1, e2⟩ := hA b (by rw [q]; simp)
        exact (z e1 e2).elim
    have nsK : ∀ {b : Addr} {m : Str → Option Value}, s₁.heap.Ns b m → (hidT s₁.heap H).Ns b m := fun {b m} ⟨o, es, ep, e, d, r⟩ =>
      ⟨o, es, ep, hidT_get e (free fun q _ => by rw [q, ha] at e; cases e; cases d), d, r⟩
    have hKb : K.In (hidT s₁.heap H) := fun b o e => hidT_get (KX b o e) (free fun q z => by rw [q, z] at e; cases e)
    have hM : Mod K mg (hidT s₁.heap H) := ⟨hKb, nsK hns, ⟨mb, nsK hb, hbb⟩, let ⟨mc, h1, h2⟩ := hlim; ⟨mc, nsK h1, h2⟩⟩
    have e0 : Env0 P w K mg (hidT s₁.heap H) callerA [] s₁ H := ⟨rfl, hM, fun b o e => of_hidT e, Nat.le_of_eq (hidT_size _ _), trivial, fun b hb => absurd (show b ∈ ([] : List Addr) from hb) (by simp), hok, .of_eq hg⟩
    refine codeAny_mono ((F _ hKb (nsK hns)).run callerA [] s₁ H ⟨[.ref a], []⟩ [.ref a] [.ref a] _ _ rfl hr e0 (hbind s₁ (.ref a)) (.cons rfl .nil) (hsp H hO hS)) fun r s' h => ?_
    cases r with
    | error e => exact False.elim h
    | ok fl =>
      cases fl with
      | next => exact False.elim h
      | brk => exact False.elim h
      | cont => exact False.elim h
      | ret u =>
        obtain ⟨v, H', os, bare, un, hok', r', q⟩ := h
        cases (show v = .bl true from q)
        cases (show u = Value.bool true from r')
        refine ⟨rfl, OldK.of_keep fun b o e => ?_, os, bare⟩
        rcases hO b with z | ⟨ob, xs, z⟩
        · exact un.keep b o e z (fun y => absurd (show b ∈ ([] : List Addr) from y) (by simp)) (by simp)
        · obtain ⟨e1, _⟩ := hok b _ z
          obtain ⟨e2, _⟩ := hok' b _ (un.frzs b ob _ z)
          rw [e] at e1
          cases e1
          exact e2
  cases hk : K.lookup a with
  | some o =>
    have e := KX a o hk
    rw [ha] at e
    cases e
    exact core (fun _ => none) (fun _ => .inl rfl) (.inr ⟨_, vs.toArray, _, hk, rfl, rfl, rfl, by rw [List.size_toArray, hi.length]; exact hl, by simpa using rv⟩) (fun b u z => nomatch z) fun b z => absurd rfl z
  | none =>
    refine core (fun b => if b = a then some (.frz { cls := .type "list", data := .seq vs.toArray } (.lst (ns.map V.int))) else none) (fun b => ?_) (.inl (.inr ⟨_, if_pos rfl⟩)) (fun b u z => ?_) fun b z => ?_
    · exact (Decidable.em (b = a)).elim (fun hb => .inr ⟨_, _, if_pos hb⟩) fun hb => .inl (if_neg hb)
    · by_cases hb : b = a
      · cases (if_pos hb).symm.trans z
        subst hb
        exact ⟨ha, by rw [List.length_map]; exact hl, vs, _, rv, ha⟩
      · cases (if_neg hb).symm.trans z
    · exact (Decidable.em (b = a)).elim (fun hb => ⟨hb, hk⟩) fun hb => absurd (if_neg hb) z
theorem walkG {l : PySem.W.OpenLaw} {n k : Nat} {q : Program} {loose : List Str} {XP : (Str → Option Value) → Heap → Prop} {YP : World → Heap → Prop} {d : DefRec} {K : Params → PySem.W.Frag} {sp : PySem.W.Frag → Sp} {x : Str}
    (hn : l.most = some n) (hn2 : n ≤ sizeLine) (hdf : d.params.defaults = []) (hr : Room k callerA)
    (hY : ∀ (w : World) (h : Heap), YP w h → (K w.params).In h)
    (F : ∀ (w : World) (mg : Str → Option Value) (fa : Addr) (h : Heap), (K w.params).In h → h.Ns mainGlobals mg → mg d.name = some (.ref fa) →
      ∃ fd : FuncData, (∀ (s : Shared) (u : Value), BindsTo s fd ⟨[u], []⟩ [(x, u)]) ∧
        ∀ base : Heap, (K w.params).In base → base.Ns mainGlobals mg → FnG l.prog w (K w.params) mg base k fa fd [x] (sp (K w.params)))
    (hsp : ∀ (K : PySem.W.Frag) (H : Hp) (a : Addr) (ns : List Int), ns.length ≤ n → Only H → SqL K H a (ns.map V.int) → sp K [.ref a] H (fun v _ => v = .bl true) fun _ _ _ => False) :
    PySem.W.WalkO q loose XP YP l.row.toRowW d [] (fun f vs => PySem.call f vs) := by
  refine Att.attach_call hn hdf fun w s₀ s₁ mg mb fa o pm cd doc a vs ns G Y ho hd hcd hmg hobj hints hlen hg => ?_
  obtain ⟨fd, hb, hF⟩ := F w mg fa _ (hY w _ Y) G.T.g hmg
  exact law_callG (hY w _ Y) G.T.g G.T.b G.T.builtins G.T.nolimit hg hobj hints (Nat.le_trans hlen hn2) hr hF hb fun H hO hS => hsp _ H a ns hlen hO hS
end FYR

set_option Elab.async false
set_option linter.all false
set_option maxRecDepth 100000
set_option maxHeartbeats 4000000
/-! the rules with the written part named (for comprehensions' blocks) -/
namespace FYR
open PySem PySem.Spec PyProof.Rows L2
section
variable {X : Cx} (K : PySem.W.Frag) (hK : X.K = K)
include hK
theorem kIn : OpR X (compareOp .In) (rIn K false) := by subst hK; exact op_in_seq
theorem kNotIn : OpR X (compareOp .NotIn) (rIn K true) := by subst hK; exact op_notIn_seq
theorem kEqD (hu : X.A.units + 64 < cLine) : OpR X (compareOp .Eq) (rEqD K) := by subst hK; exact op_eqD hu
theorem kNeD (hu : X.A.units + 64 < cLine) : OpR X (compareOp .NotEq) (rNeD K) := by subst hK; exact op_neD hu
theorem kIxT : IxR X (rIxT K) := by subst hK; exact ix_tup
theorem kIxL : IxR X (rIxL K) := by subst hK; exact ix_list
theorem kSlT : SlR X (rSlT K) := by subst hK; exact sl_tup
theorem kSlL : SlR X (rSlL K) := by subst hK; exact sl_list
theorem kCatT : OpR X (binaryOp .Add) (rCatT K) := by subst hK; exact op_catT
theorem kIsi : CallR X (.builtin "isinstance") (rIsi K) := by subst hK; exact call_isi
def rLenK (K : PySem.W.Frag) : List V → Hp → VK → Prop := fun xs H Q => ∃ p ys, xs = [.ref p] ∧ (SqL K H p ys ∨ SqT K H p ys) ∧ Q (.int ys.length) H
theorem kLen : CallR X (.builtin "len") (rLenK K) := by subst hK; exact call_len_seq
theorem kAll (hc : X.calm = true) : CallR X (.builtin "all") (rAll K) := by subst hK; exact cr_all hc
theorem kSum (hc : X.calm = true) : CallR X (.builtin "sum") (rSum K) := by subst hK; exact cr_sum hc
theorem kExtT : MtM X "list.extend" (rExtendT K) := by subst hK; exact mt_extendT
theorem kTupG {es : List Expr} {k : Nat} {t : TGs} {n : Nat} {pos : Pos} (hc : X.calm = true) (h : PGs X es t)
    (hn : (assignEach es X.env).length = n := by rfl) (hst : (assignEach es X.env).findIdx? (·.1) = none := by rfl) : PG X (.Tuple es k pos) (gTup K n t) := by subst hK; exact pg_tup hc h hn hst
theorem kList {tg l : Expr} {tl : TE} (hl : PE X l tl) : PI X tg l (iList K tl) := by subst hK; exact pi_list hl
theorem kTup {tg l : Expr} {tl : TE} (hl : PE X l tl) : PI X tg l (iTup K tl) := by subst hK; exact pi_tup hl
def rJoin (K : PySem.W.Frag) : V → List V → Hp → VK → Prop := fun x xs H Q => ∃ a p, ∃ ys : List Str, x = .str a ∧ xs = [.ref p] ∧ (SqL K H p (ys.map V.str) ∨ SqT K H p (ys.map V.str)) ∧ (ys.map (·.length)).sum + ys.length * a.length ≤ 16777216 ∧ Q (.str (Txt.join a ys)) H
theorem kJoin {o e : Expr} {to te : TE} {apos pos : Pos} (ho : PE X o to) (he : PE X e te) (hs : starEach [e] X.env = [(false, eval e X.env)] := by rfl) (hbase : attributeBase o "join" X.env (eval o X.env) = eval o X.env := by rfl) (hline : (apos.endLine == pos.line) = true := by rfl) :
    PE X (.Call (.Attribute o "join" apos) [e] [] pos) (tM1 (rJoin K) to te) := by subst hK; exact pe_join ho he hs hbase hline
section
variable {o e : Expr} {es : List Expr} {to : TE} {t : TA} {name : Str} {apos cpos : Pos} {T id : String} {r : V → List V → Hp → VK → Prop}
theorem kBm0 (pa : PlainAttrs T) (slot : Slot T name id) (hty : typeOf (.builtin id) = pure (.type "method_descriptor")) (hm : MtR X id r) (ho : PE X o to)
    (hbase : attributeBase o name X.env (eval o X.env) = eval o X.env := by rfl) (hline : (apos.endLine == cpos.line) = true := by rfl) : PE X (.Call (.Attribute o name apos) [] [] cpos) (tBM0 K T r to) := by subst hK; exact pe_bm0 pa slot hty hm ho hbase hline
theorem kBm (pa : PlainAttrs T) (slot : Slot T name id) (hty : typeOf (.builtin id) = pure (.type "method_descriptor")) (hm : MtR X id r) (ho : PE X o to) (ha : PA X (e :: es) t)
    (hbase : attributeBase o name X.env (eval o X.env) = eval o X.env := by rfl)
    (hfew : ((backTo cpos (starEach (e :: es) X.env)).all (fun x => !x.1) && (backToKw cpos (keywordEach [] X.env)).all (fun x => x.1.isSome)
      && decide ((e :: es).length + ([] : List Keyword).length + (if ([] : List Keyword).isEmpty then 0 else 1) < 30)) = true := by rfl)
    (hline : (apos.endLine == cpos.line) = true := by rfl) (hs : starEach (e :: es) X.env = (false, eval e X.env) :: starEach es X.env := by rfl) (hplain : (backTo cpos (starEach es X.env)).any (·.1) = false := by rfl) :
    PE X (.Call (.Attribute o name apos) (e :: es) [] cpos) (tBM K T r to t) := by subst hK; exact pe_bm pa slot hty hm ho ha hbase hfew hline hs hplain
end
theorem kRepr {k : Nat} (hgd : X.A.guards = some []) (hr : Room k X.A) : CallR X (.builtin "repr") (rReprD K) := by subst hK; exact call_reprD hgd hr
end
/-! slots and classes as values in short -/
section
variable {X : Cx}
theorem pTy {T : String} {x : Str} {pos : Pos} (hg : Gl X x) (hm : X.mg x = none) (hv : bootBuiltins x = some (.type T)) (hn : x ≠ "__name__" := by decide) (hd : (x == ("__debug__" : Str)) = false := by decide) : PE X (.Name x pos) (tC (.ty T)) := pe_bltn hg hm hv rfl hn hd
end
end FYR

set_option Elab.async false
set_option linter.all false
set_option maxRecDepth 100000
set_option maxHeartbeats 4000000
/-! more rules with the written part named -/
namespace FYR
open PySem PySem.Spec PyProof.Rows L2
section
variable {X : Cx} (K : PySem.W.Frag) (hK : X.K = K)
include hK
theorem kFld {e : Expr} {ta : TE} {f : Str} {pos : Pos} (he : PE X e ta) (hb : attributeBase e f X.env (eval e X.env) = eval e X.env := by rfl) : PE X (.Attribute e f pos) (tFld K ta f) := by subst hK; exact pe_fld he hb
theorem kIsiT : CallR X (.builtin "isinstance") (rIsiT K) := by subst hK; exact call_isiT
theorem kEnum {e : Expr} {ta : L2.TA} {p pos tpos : Pos} {elts : List Expr} {kk : Nat} (hg : Gl X "enumerate") (hm : X.mg "enumerate" = none) (ha : PA X [e] ta) (hs : starEach [e] X.env = [(false, eval e X.env)] := by rfl) :
    PI X (.Tuple elts kk tpos) (.Call (.Name "enumerate" p) [e] [] pos) (iEnum K ta) := by subst hK; exact pi_enum hg hm ha hs
theorem kSetF {o value : Expr} {ta tv : TE} {f : Str} {pos pos' : Pos} (ha : PE X o ta) (hv : PE X value tv) (hs : swapsWith value (some (.Attribute o f pos')) pos.line X.env = pure false := by rfl) : PS X (.Assign [.Attribute o f pos'] value pos) (sFld K ta tv f) := by subst hK; exact ps_fld ha hv hs
end
end FYR

set_option Elab.async false
set_option linter.all false
set_option maxRecDepth 100000
set_option maxHeartbeats 4000000
namespace FY
open PySem L2 FYR
def W1.s : W1 → Str
  | .no => "not" | .twice => "twice" | .half => "half" | .change => "change" | .count => "count"
def Tm.word : Tm → Str
  | .inn => "in" | .one w _ => w.s | .late _ _ => "late" | .byy _ _ _ _ _ _ => "by" | .keep _ _ => "keep" | .thn _ _ => "then"
/-- what else stands in the tuple ahead of the parts -/
def Tm.extra : Tm → List Str
  | .late b _ => [sgn b] | .byy a b c d _ _ => [tx [a, b, c, d]] | _ => []
def Tm.parts : Tm → List Tm
  | .inn => [] | .one _ t => [t] | .late _ t => [t] | .byy _ _ _ _ t u => [t, u] | .keep t u => [t, u] | .thn t u => [t, u]
def Tm.isIn : Tm → Bool | .inn => true | _ => false
def Tm.data : Tm → PyData
  | .inn => .str "in"
  | .one w t => .tuple [.str w.s, t.data]
  | .late b t => .tuple [.str "late", .str (sgn b), t.data]
  | .byy a b c d t u => .tuple [.str "by", .str (tx [a, b, c, d]), t.data, u.data]
  | .keep t u => .tuple [.str "keep", t.data, u.data]
  | .thn t u => .tuple [.str "then", t.data, u.data]
/-- the value v is the term t -/
def TA (H : Hp) : V → Tm → Prop
  | v, .inn => v = .str "in"
  | v, .one w t => ∃ a x, v = .ref a ∧ H a = some (.tup [.str w.s, x]) ∧ TA H x t
  | v, .late b t => ∃ a x, v = .ref a ∧ H a = some (.tup [.str "late", .str (sgn b), x]) ∧ TA H x t
  | v, .byy a b c d t u => ∃ p x y, v = .ref p ∧ H p = some (.tup [.str "by", .str (tx [a, b, c, d]), x, y]) ∧ TA H x t ∧ TA H y u
  | v, .keep t u => ∃ p x y, v = .ref p ∧ H p = some (.tup [.str "keep", x, y]) ∧ TA H x t ∧ TA H y u
  | v, .thn t u => ∃ p x y, v = .ref p ∧ H p = some (.tup [.str "then", x, y]) ∧ TA H x t ∧ TA H y u
/-- the tuples stay -/
def Tups (H H' : Hp) : Prop := ∀ a xs, H a = some (.tup xs) → H' a = some (.tup xs)
theorem Tups.of {H H' : Hp} (h : Same H H') : Tups H H' := fun a xs e => h a _ e
theorem Tups.refl (H : Hp) : Tups H H := fun _ _ e => e
theorem Tups.trans {H H1 H2 : Hp} (a : Tups H H1) (b : Tups H1 H2) : Tups H H2 := fun x xs e => b x xs (a x xs e)
theorem TA.keep {H H' : Hp} (k : Tups H H') : ∀ {t : Tm} {v : V}, TA H v t → TA H' v t := by
  intro t
  induction t with
  | inn => intro v h; exact h
  | one w t ih => rintro v ⟨a, x, e, h, r⟩; exact ⟨a, x, e, k _ _ h, ih r⟩
  | late b t ih => rintro v ⟨a, x, e, h, r⟩; exact ⟨a, x, e, k _ _ h, ih r⟩
  | byy a b c d t u i1 i2 => rintro v ⟨p, x, y, e, h, r, q⟩; exact ⟨p, x, y, e, k _ _ h, i1 r, i2 q⟩
  | keep t u i1 i2 => rintro v ⟨p, x, y, e, h, r, q⟩; exact ⟨p, x, y, e, k _ _ h, i1 r, i2 q⟩
  | thn t u i1 i2 => rintro v ⟨p, x, y, e, h, r, q⟩; exact ⟨p, x, y, e, k _ _ h, i1 r, i2 q⟩
/-- a node that is no "in", whichever -/
theorem TA.node {H : Hp} {t : Tm} {v : V} (h : TA H v t) (hn : t.isIn = false) : ∃ a ws, v = .ref a ∧ H a = some (.tup (.str t.word :: (t.extra.map V.str ++ ws))) ∧ Paired (TA H) ws t.parts := by
  cases t with
  | inn => cases hn
  | one w t => obtain ⟨a, x, e, h, r⟩ := h; exact ⟨a, [x], e, h, .cons r .nil⟩
  | late b t => obtain ⟨a, x, e, h, r⟩ := h; exact ⟨a, [x], e, h, .cons r .nil⟩
  | byy a b c d t u => obtain ⟨p, x, y, e, h, r, q⟩ := h; exact ⟨p, [x, y], e, h, .cons r (.cons q .nil)⟩
  | keep t u => obtain ⟨p, x, y, e, h, r, q⟩ := h; exact ⟨p, [x, y], e, h, .cons r (.cons q .nil)⟩
  | thn t u => obtain ⟨p, x, y, e, h, r, q⟩ := h; exact ⟨p, [x, y], e, h, .cons r (.cons q .nil)⟩
theorem TA.dp {K : PySem.W.Frag} {H : Hp} : ∀ {t : Tm} {v : V}, TA H v t → Dp K H v t.data := by
  intro t
  induction t with
  | inn => rintro v rfl; exact .str _
  | one w t ih => rintro v ⟨a, x, rfl, h, r⟩; exact .tup (SqT.of h) (.cons (.str _) (.cons (ih r) .nil))
  | late b t ih => rintro v ⟨a, x, rfl, h, r⟩; exact .tup (SqT.of h) (.cons (.str _) (.cons (.str _) (.cons (ih r) .nil)))
  | byy a b c d t u i1 i2 => rintro v ⟨p, x, y, rfl, h, r, q⟩; exact .tup (SqT.of h) (.cons (.str _) (.cons (.str _) (.cons (i1 r) (.cons (i2 q) .nil))))
  | keep t u i1 i2 => rintro v ⟨p, x, y, rfl, h, r, q⟩; exact .tup (SqT.of h) (.cons (.str _) (.cons (i1 r) (.cons (i2 q) .nil)))
  | thn t u i1 i2 => rintro v ⟨p, x, y, rfl, h, r, q⟩; exact .tup (SqT.of h) (.cons (.str _) (.cons (i1 r) (.cons (i2 q) .nil)))
theorem sgn_ok (b : Bool) : PyData.strOk (sgn b) = true := by cases b <;> decide +kernel
theorem tab_ok (a b c d : Bool) : PyData.strOk (tx [a, b, c, d]) = true := by cases a <;> cases b <;> cases c <;> cases d <;> decide +kernel
theorem w1_ok (w : W1) : PyData.strOk w.s = true := by cases w <;> decide +kernel
theorem lay_tm (t : Tm) : t.data.canLay0 = true := by
  induction t with
  | inn => decide +kernel
  | one w t ih => simp [Tm.data, PyData.canLay0, PyData.canLayAll0, ih, w1_ok]
  | late b t ih => simp [Tm.data, PyData.canLay0, PyData.canLayAll0, ih, sgn_ok]; decide +kernel
  | byy a b c d t u i1 i2 => simp [Tm.data, PyData.canLay0, PyData.canLayAll0, i1, i2, tab_ok]; decide +kernel
  | keep t u i1 i2 => simp [Tm.data, PyData.canLay0, PyData.canLayAll0, i1, i2]; decide +kernel
  | thn t u i1 i2 => simp [Tm.data, PyData.canLay0, PyData.canLayAll0, i1, i2]; decide +kernel
theorem depth_tm (t : Tm) : t.data.depth ≤ t.nodes := by
  induction t with
  | inn => simp [Tm.data, PyData.depth]
  | one w t ih => simp [Tm.data, PyData.depth, PyData.depthAll, Tm.nodes]; omega
  | late b t ih => simp [Tm.data, PyData.depth, PyData.depthAll, Tm.nodes]; omega
  | byy a b c d t u i1 i2 => simp [Tm.data, PyData.depth, PyData.depthAll, Tm.nodes]; omega
  | keep t u i1 i2 => simp [Tm.data, PyData.depth, PyData.depthAll, Tm.nodes]; omega
  | thn t u i1 i2 => simp [Tm.data, PyData.depth, PyData.depthAll, Tm.nodes]; omega
theorem shp_tm {t : Tm} (h : t.nodes ≤ 40) : SeqAt.shaped t.data = true := by
  unfold SeqAt.shaped
  have := depth_tm t
  simp [lay_tm]
  omega
theorem eqv_in (t : Tm) : PyData.eqv t.data (.str "in") = t.isIn := by
  cases t <;> simp [Tm.data, PyData.eqv, Tm.isIn]
theorem shp_in : SeqAt.shaped (.str "in") = true := by decide +kernel
theorem same_new {H : Hp} {p : Addr} (h : H p = none) (o : HO) : Same H (upd H p o) := fun b u q => by rw [upd_ne (ne_of_none q h)]; exact q
theorem small5 {n : Nat} (h : n ≤ 100000) : n ≤ sizeLine := Nat.le_trans h (by decide)
theorem paired_keep {H H' : Hp} (k : Tups H H') : ∀ {ws : List V} {ts : List Tm}, Paired (TA H) ws ts → Paired (TA H') ws ts
  | _, _, .nil => .nil
  | _, _, .cons r q => .cons (r.keep k) (paired_keep k q)
theorem show_tm (t : Tm) : t.data.showable = true ∧ t.data.hasDict = false := by
  induction t with
  | inn => exact ⟨rfl, rfl⟩
  | one w t ih => simp [Tm.data, PyData.showable, PyData.showableAll, PyData.hasDict, PyData.hasDictAll, ih]
  | late b t ih => simp [Tm.data, PyData.showable, PyData.showableAll, PyData.hasDict, PyData.hasDictAll, ih]
  | byy a b c d t u i1 i2 => simp [Tm.data, PyData.showable, PyData.showableAll, PyData.hasDict, PyData.hasDictAll, i1, i2]
  | keep t u i1 i2 => simp [Tm.data, PyData.showable, PyData.showableAll, PyData.hasDict, PyData.hasDictAll, i1, i2]
  | thn t u i1 i2 => simp [Tm.data, PyData.showable, PyData.showableAll, PyData.hasDict, PyData.hasDictAll, i1, i2]
def op1 : Tm → List Bool → List Bool
  | .one w _, f => oneL w f
  | .late b _, f => lateL b f
  | _, f => f
def op2 : Tm → List Bool → List Bool → List Bool
  | .byy a b c d _ _, f, g => byL a b c d f g
  | .keep _ _, f, g => keepL f g
  | _, f, _ => f
end FY

set_option Elab.async false
set_option linter.all false
set_option maxRecDepth 100000
set_option maxHeartbeats 4000000
namespace FY
open PySem L2 FYR
def put : Tm → Tm → Tm
  | .inn, o => o
  | .one w t, o => .one w (put t o)
  | .late b t, o => .late b (put t o)
  | .byy a b c d t u, o => .byy a b c d (put t o) (put u o)
  | .keep t u, o => .keep (put t o) (put u o)
  | .thn t u, o => .thn (put t o) u
def plain : Tm → Tm
  | .inn => .inn
  | .one w t => .one w (plain t)
  | .late b t => .late b (plain t)
  | .byy a b c d t u => .byy a b c d (plain t) (plain u)
  | .keep t u => .keep (plain t) (plain u)
  | .thn t u => put (plain u) (plain t)
def Tm.dep : Tm → Nat
  | .inn => 1
  | .one _ t => t.dep + 1
  | .late _ t => t.dep + 1
  | .byy _ _ _ _ t u => max t.dep u.dep + 1
  | .keep t u => max t.dep u.dep + 1
  | .thn t u => max t.dep u.dep + 1
def noThn : Tm → Bool
  | .inn => true
  | .one _ t => noThn t
  | .late _ t => noThn t
  | .byy _ _ _ _ t u => noThn t && noThn u
  | .keep t u => noThn t && noThn u
  | .thn _ _ => false
theorem flow_put : ∀ (t o : Tm) (s : List Bool), flow (put t o) s = flow t (flow o s) := by
  intro t
  induction t with
  | inn => intro o s; rfl
  | one w t ih => intro o s; simp [put, flow, ih]
  | late b t ih => intro o s; simp [put, flow, ih]
  | byy a b c d t u i1 i2 => intro o s; simp [put, flow, i1, i2]
  | keep t u i1 i2 => intro o s; simp [put, flow, i1, i2]
  | thn t u i1 i2 => intro o s; simp [put, flow, i1]
theorem flow_plain : ∀ (t : Tm) (s : List Bool), flow (plain t) s = flow t s := by
  intro t
  induction t with
  | inn => intro s; rfl
  | one w t ih => intro s; simp [plain, flow, ih]
  | late b t ih => intro s; simp [plain, flow, ih]
  | byy a b c d t u i1 i2 => intro s; simp [plain, flow, i1, i2]
  | keep t u i1 i2 => intro s; simp [plain, flow, i1, i2]
  | thn t u i1 i2 => intro s; simp [plain, flow, flow_put, i1, i2]
theorem put_inn : ∀ t : Tm, put t .inn = t := by
  intro t
  induction t <;> simp_all [put]
theorem noThn_put : ∀ t o : Tm, noThn t = true → noThn o = true → noThn (put t o) = true := by
  intro t
  induction t <;> simp_all [put, noThn]
theorem noThn_plain : ∀ t : Tm, noThn (plain t) = true := by
  intro t
  induction t with
  | thn t u i1 i2 => exact noThn_put _ _ i2 i1
  | _ => simp_all [plain, noThn]
theorem plain_of : ∀ t : Tm, noThn t = true → plain t = t := by
  intro t
  induction t <;> simp_all [plain, noThn]
theorem plain_plain (t : Tm) : plain (plain t) = plain t := plain_of _ (noThn_plain t)
theorem Tm.dep_le (t : Tm) : t.dep ≤ t.nodes := by
  induction t with
  | inn => simp [Tm.dep, Tm.nodes]
  | one w t ih => simp [Tm.dep, Tm.nodes]; omega
  | late b t ih => simp [Tm.dep, Tm.nodes]; omega
  | byy a b c d t u i1 i2 => simp [Tm.dep, Tm.nodes]; omega
  | keep t u i1 i2 => simp [Tm.dep, Tm.nodes]; omega
  | thn t u i1 i2 => simp [Tm.dep, Tm.nodes]; omega
theorem Tm.dep_pos (t : Tm) : 1 ≤ t.dep := by cases t <;> simp [Tm.dep]
theorem dep_put (o : Tm) : ∀ t : Tm, (put t o).dep ≤ t.dep + o.dep := by
  intro t
  induction t with
  | inn => simp [put, Tm.dep]
  | one w t ih => simp [put, Tm.dep]; omega
  | late b t ih => simp [put, Tm.dep]; omega
  | byy a b c d t u i1 i2 => simp [put, Tm.dep]; omega
  | keep t u i1 i2 => simp [put, Tm.dep]; omega
  | thn t u i1 i2 => simp [put, Tm.dep]; omega
theorem dep_plain : ∀ t : Tm, (plain t).dep ≤ t.nodes := by
  intro t
  induction t with
  | inn => simp [plain, Tm.dep, Tm.nodes]
  | one w t ih => simp [plain, Tm.dep, Tm.nodes]; omega
  | late b t ih => simp [plain, Tm.dep, Tm.nodes]; omega
  | byy a b c d t u i1 i2 => simp [plain, Tm.dep, Tm.nodes]; omega
  | keep t u i1 i2 => simp [plain, Tm.dep, Tm.nodes]; omega
  | thn t u i1 i2 => have := dep_put (plain t) (plain u); simp [plain, Tm.nodes]; omega
theorem depth_dep (t : Tm) : t.data.depth ≤ t.dep := by
  induction t with
  | inn => simp [Tm.data, PyData.depth]
  | one w t ih => simp [Tm.data, PyData.depth, PyData.depthAll, Tm.dep]; omega
  | late b t ih => simp [Tm.data, PyData.depth, PyData.depthAll, Tm.dep]; omega
  | byy a b c d t u i1 i2 => simp [Tm.data, PyData.depth, PyData.depthAll, Tm.dep]; omega
  | keep t u i1 i2 => simp [Tm.data, PyData.depth, PyData.depthAll, Tm.dep]; omega
  | thn t u i1 i2 => simp [Tm.data, PyData.depth, PyData.depthAll, Tm.dep]; omega
theorem shp_dep {t : Tm} (h : t.dep ≤ 60) : SeqAt.shaped t.data = true := by
  unfold SeqAt.shaped
  have := depth_dep t
  simp [lay_tm]
  omega
theorem parts_dep {t u : Tm} (h : u ∈ t.parts) : u.dep + 1 ≤ t.dep := by
  cases t <;> simp [Tm.parts, Tm.dep] at h ⊢
  · subst h; omega
  · subst h; omega
  · rcases h with rfl | rfl <;> omega
  · rcases h with rfl | rfl <;> omega
  · rcases h with rfl | rfl <;> omega
theorem parts_few (t : Tm) : t.parts.length ≤ 2 := by cases t <;> simp [Tm.parts]
end FY

set_option Elab.async false
set_option linter.all false
set_option maxRecDepth 100000
set_option maxHeartbeats 4000000
namespace FY
open PySem L2 FYR
def top (i : Nat) : Stmt := PySem.Challenge.pw_flowyard_k23_whole_meant_by_any_schedule.main.body.getD i (.Pass ⟨0, 0, 0, 0⟩)
theorem bt_len : bootBuiltins "len" = some (.builtin "len") := by decide +kernel
theorem bt_isinstance : bootBuiltins "isinstance" = some (.builtin "isinstance") := by decide +kernel
theorem bt_all : bootBuiltins "all" = some (.builtin "all") := by decide +kernel
theorem bt_sum : bootBuiltins "sum" = some (.builtin "sum") := by decide +kernel
theorem bt_abs : bootBuiltins "abs" = some (.builtin "abs") := by decide +kernel
theorem bt_max : bootBuiltins "max" = some (.builtin "max") := by decide +kernel
theorem bt_min : bootBuiltins "min" = some (.builtin "min") := by decide +kernel
theorem bt_divmod : bootBuiltins "divmod" = some (.builtin "divmod") := by decide +kernel
theorem bt_repr : bootBuiltins "repr" = some (.builtin "repr") := by decide +kernel
theorem bt_int : bootBuiltins "int" = some (.type "int") := by decide +kernel
theorem bt_str : bootBuiltins "str" = some (.type "str") := by decide +kernel
theorem bt_tuple : bootBuiltins "tuple" = some (.type "tuple") := by decide +kernel
theorem bt_bool : bootBuiltins "bool" = some (.type "bool") := by decide +kernel
theorem bt_sorted : bootBuiltins "sorted" = some (.builtin "sorted") := by decide +kernel
theorem bt_list : bootBuiltins "list" = some (.type "list") := by decide +kernel
structure Txt (K : PySem.W.Frag) (mg : Str → Option Value) (aS a1 a2 : Addr) : Prop where
  b_len : mg "len" = none
  b_isinstance : mg "isinstance" = none
  b_all : mg "all" = none
  b_sum : mg "sum" = none
  b_abs : mg "abs" = none
  b_max : mg "max" = none
  b_min : mg "min" = none
  b_divmod : mg "divmod" = none
  b_repr : mg "repr" = none
  b_int : mg "int" = none
  b_str : mg "str" = none
  b_tuple : mg "tuple" = none
  b_list : mg "list" = none
  b_zip : mg "zip" = none
  b_range : mg "range" = none
  b_bool : mg "bool" = none
  b_enumerate : mg "enumerate" = none
  b_sorted : mg "sorted" = none
  g_SIGNS : ∃ u, mg "SIGNS" = some u ∧ RelV (.ref aS) u
  k_SIGNS : ∀ H, SqT K H aS [.str "0", .str "1"]
  g_OF_ONE : ∃ u, mg "OF_ONE" = some u ∧ RelV (.ref a1) u
  k_OF_ONE : ∀ H, SqT K H a1 [.str "not", .str "twice", .str "half", .str "change", .str "count"]
  g_OF_TWO : ∃ u, mg "OF_TWO" = some u ∧ RelV (.ref a2) u
  k_OF_TWO : ∀ H, SqT K H a2 [.str "keep", .str "then"]
  g_IN : ∃ u, mg "IN" = some u ∧ RelV (.str "in") u
  g_LATE : ∃ u, mg "LATE" = some u ∧ RelV (.str "late") u
  g_BY : ∃ u, mg "BY" = some u ∧ RelV (.str "by") u
  g_KEEP : ∃ u, mg "KEEP" = some u ∧ RelV (.str "keep") u
  g_THEN : ∃ u, mg "THEN" = some u ∧ RelV (.str "then") u
  g_MOST_STANDINGS : ∃ u, mg "MOST_STANDINGS" = some u ∧ RelV (.int 4) u
  g_MOST_GIVEN : ∃ u, mg "MOST_GIVEN" = some u ∧ RelV (.int 2) u
  g_MOST_TICKS : ∃ u, mg "MOST_TICKS" = some u ∧ RelV (.int 9) u
  g_MOST_SIZE : ∃ u, mg "MOST_SIZE" = some u ∧ RelV (.int 3) u
  g_MOST_NODES : ∃ u, mg "MOST_NODES" = some u ∧ RelV (.int 9) u
  g_MOST_SIGNS : ∃ u, mg "MOST_SIGNS" = some u ∧ RelV (.int 8000) u
  g_MOST_STREAM : ∃ u, mg "MOST_STREAM" = some u ∧ RelV (.int 1000) u
/-! promises -/
def spIsSign : Sp := fun vs H Q _ => ∃ b, vs = [.str (sgn b)] ∧ Q (.bl true) H
def spIsText : Sp := fun vs H Q _ => ∃ bs, vs = [.str (tx bs)] ∧ bs.length ≤ 100000 ∧ ∀ H', Same H H' → Q (.bl true) H'
def spIsTextOf : Sp := fun vs H Q _ => ∃ (bs : List Bool) (n : Int), vs = [.str (tx bs), .int n] ∧ bs.length ≤ 100000 ∧ ∀ H', Same H H' → Q (.bl (decide ((bs.length : Int) ≤ n))) H'
def spWantStream : Sp := fun vs H Q _ => ∃ bs, vs = [.str (tx bs)] ∧ bs.length ≤ 1000 ∧ ∀ H', Same H H' → Q .non H'
def spPartsOf : Sp := fun vs H Q _ => ∃ v t, vs = [v] ∧ TA H v t ∧ t.dep ≤ 60 ∧ ∀ H' p ws, Same H H' → H' p = some (.tup ws) → Paired (TA H') ws t.parts → Q (.ref p) H'
def spHasShape : Sp := fun vs H Q _ => ∃ v t, vs = [v] ∧ TA H v t ∧ t.isIn = false ∧ ∀ H', Same H H' → Q (.bl true) H'
def spIsTerm : Sp := fun vs H Q _ => ∃ v t, vs = [v] ∧ TA H v t ∧ t.nodes ≤ 40 ∧ ∀ H', Same H H' → Q (.bl (decide (t.nodes ≤ 9))) H'
def spWantTerm : Sp := fun vs H Q _ => ∃ v t, vs = [v] ∧ TA H v t ∧ t.nodes ≤ 9 ∧ ∀ H', Same H H' → Q .non H'
theorem ty_str {K : PySem.W.Frag} {H : Hp} (x : Str) : TyX K H (.str x) (.type "str") := .base (.str x)
theorem ty_tup {K : PySem.W.Frag} {H : Hp} {a : Addr} {xs : List V} (h : H a = some (.tup xs)) : TyX K H (.ref a) (.type "tuple") := .base (.tup h)
theorem kss {K : PySem.W.Frag} : PySem.W.kitOne K (.type "str") (.type "str") = some true := kit_ty (by decide +kernel)
theorem kts {K : PySem.W.Frag} : PySem.W.kitOne K (.type "tuple") (.type "str") = some false := kit_ty (by decide +kernel)
theorem ktt {K : PySem.W.Frag} : PySem.W.kitOne K (.type "tuple") (.type "tuple") = some true := kit_ty (by decide +kernel)
theorem kst {K : PySem.W.Frag} : PySem.W.kitOne K (.type "str") (.type "tuple") = some false := kit_ty (by decide +kernel)
theorem tyI {σ : St} {H : Hp} {A B : Hp → Prop} (h : A H) : tYes σ H (fun b H3 => if b = true then A H3 else B H3) := by
  show if true = true then A H else B H
  rw [if_pos rfl]
  exact h
theorem o1w (w : W1) : (if false = true then !inV (.str w.s) [.str "not", .str "twice", .str "half", .str "change", .str "count"] else inV (.str w.s) [.str "not", .str "twice", .str "half", .str "change", .str "count"]) = true := by cases w <;> decide +kernel
theorem o1l : (if false = true then !inV (.str "late") [.str "not", .str "twice", .str "half", .str "change", .str "count"] else inV (.str "late") [.str "not", .str "twice", .str "half", .str "change", .str "count"]) = false := by decide +kernel
theorem o1b : (if false = true then !inV (.str "by") [.str "not", .str "twice", .str "half", .str "change", .str "count"] else inV (.str "by") [.str "not", .str "twice", .str "half", .str "change", .str "count"]) = false := by decide +kernel
theorem o1k : (if false = true then !inV (.str "keep") [.str "not", .str "twice", .str "half", .str "change", .str "count"] else inV (.str "keep") [.str "not", .str "twice", .str "half", .str "change", .str "count"]) = false := by decide +kernel
theorem o1t : (if false = true then !inV (.str "then") [.str "not", .str "twice", .str "half", .str "change", .str "count"] else inV (.str "then") [.str "not", .str "twice", .str "half", .str "change", .str "count"]) = false := by decide +kernel
theorem o2l : (if false = true then !inV (.str "late") [.str "keep", .str "then"] else inV (.str "late") [.str "keep", .str "then"]) = false := by decide +kernel
theorem o2b : (if false = true then !inV (.str "by") [.str "keep", .str "then"] else inV (.str "by") [.str "keep", .str "then"]) = false := by decide +kernel
theorem o2k : (if false = true then !inV (.str "keep") [.str "keep", .str "then"] else inV (.str "keep") [.str "keep", .str "then"]) = true := by decide +kernel
theorem o2t : (if false = true then !inV (.str "then") [.str "keep", .str "then"] else inV (.str "then") [.str "keep", .str "then"]) = true := by decide +kernel
theorem iteTd {c : Bool} {A B : Prop} (e : c = true) (h : A) : if c = true then A else B := by
  subst e
  exact iteT h
theorem iteFd {c : Bool} {A B : Prop} (e : c = false) (h : B) : if c = true then A else B := by
  subst e
  exact iteF h
theorem nw1 {p : Prop} : ¬ ((1 : Nat) = 0 ∧ p) := fun z => absurd z.1 (by decide)
theorem nw2 {p : Prop} : ¬ ((2 : Nat) = 0 ∧ p) := fun z => absurd z.1 (by decide)
theorem in_signs (b : Bool) : inV (.str (sgn b)) [.str "0", .str "1"] = true := by cases b <;> decide +kernel
section
variable {P : Program} {w : World} {K : PySem.W.Frag} {mg : Str → Option Value} {base : Heap} {aS a1 a2 : Addr} {f : Addr} {fd : FuncData}
abbrev s_is_sign : Stmt := top 26
abbrev N_is_sign : List Str := ["value"]
theorem sc_is_sign : FnScope N_is_sign ["value"] (defScope s_is_sign) := ⟨rfl, rfl, rfl, by decide +kernel, rfl, by decide +kernel, by decide +kernel⟩
theorem ok_is_sign (F : Fun K "is_sign" "is_sign" s_is_sign f fd) (T : Txt K mg aS a1 a2) : FnOk P w K mg base CX0 1 f fd ["value"] spIsSign := by
  refine F.ok sc_is_sign (fun vs H Q E h => ?_) (fun cdv A outer s H vs Q E hr h => ?_)
  · obtain ⟨b, rfl, _⟩ := h
    rfl
  obtain ⟨b, rfl, q⟩ := h
  refine ⟨_, (pss_one (ps_ret (pe_and (pe_callB (kIsi K rfl) rfl T.b_isinstance bt_isinstance (pa_cons (pv 0) (pa_cons (pTy rfl T.b_str bt_str) pa_nil))) (pe_one (pe_cmpR (kIn K rfl) (pv 0) (C8.pe_gc rfl T.g_SIGNS) rfl))))), ?_⟩
  refine ⟨_, rfl, _, _, _, _, _, rfl, .ty _, ty_str _, kss, _, rfl, iteT ?_⟩
  refine ⟨_, rfl, _, _, rfl, .inr (T.k_SIGNS _), rfl, rfl, ?_⟩
  rw [if_neg Bool.false_ne_true, in_signs]
  exact q
abbrev s_is_text : Stmt := top 27
abbrev N_is_text : List Str := ["value", "sign"]
theorem sc_is_text : FnScope N_is_text ["value"] (defScope s_is_text) := ⟨rfl, rfl, rfl, by decide +kernel, rfl, by decide +kernel, by decide +kernel⟩
theorem ok_is_text (F : Fun K "is_text" "is_text" s_is_text f fd) (T : Txt K mg aS a1 a2) : FnOk P w K mg base CX0 1 f fd ["value"] spIsText := by
  refine F.ok sc_is_text (fun vs H Q E h => ?_) (fun cdv A outer s H vs Q E hr h => ?_)
  · obtain ⟨b, rfl, _⟩ := h
    rfl
  obtain ⟨bs, rfl, hl, q⟩ := h
  refine ⟨_, (pss_one (ps_ret (pe_and (pe_callB (kIsi K rfl) rfl T.b_isinstance bt_isinstance (pa_cons (pv 0) (pa_cons (pTy rfl T.b_str bt_str) pa_nil))) (pe_one (pe_callB (kAll K rfl rfl) rfl T.b_all bt_all (pa_cons (pe_lc (own := [("sign", 1)]) rfl sc_is_text.nd (pi_str (pv 0)) (blkOk_by (N := N_is_text) (sc := defScope s_is_text) (by decide +kernel)) (fun _ _ _ _ _ => (pg_name (i := 1) sc_is_text.nd rfl (Or.inl rfl))) (fun _ _ _ _ _ => pts_nil) (fun _ _ _ _ _ => (pe_cmpR (kIn K rfl) (pv 1) (C8.pe_gc rfl T.g_SIGNS) rfl))) pa_nil)))))), ?_⟩
  refine ⟨_, rfl, _, _, _, _, _, rfl, .ty _, ty_str _, kss, _, rfl, iteT ?_⟩
  refine ⟨_, rfl, _, rfl, fun D hD => lc_it walk_str (fun i H' => Same H H' ∧ H' D = some (.lst (List.replicate i (.bl true)))) ⟨same_new hD _, upd_same⟩ (fun _ _ _ _ => trivial) ?_ ?_⟩
  · rintro i x H1 H2 hi ⟨sm, hd⟩ ⟨rfl, c, hc, rfl⟩
    rw [tx_get] at hc
    obtain ⟨b, hb, rfl⟩ := Option.map_eq_some_iff.mp hc
    refine ⟨rfl, tyI ?_⟩
    refine ⟨_, rfl, _, _, rfl, .inr (T.k_SIGNS _), rfl, rfl, ?_⟩
    rw [if_neg Bool.false_ne_true]
    rw [show inV (V.str { cps := #[cd b] }) [V.str (Str.ofString "0"), V.str (Str.ofString "1")] = true from in_signs b]
    have hi' : i < bs.length := by rw [tx_size] at hi; exact hi
    refine ⟨_, hd, ?_, fun b o e => ?_, ?_⟩
    · rw [List.length_replicate]
      exact Nat.lt_of_lt_of_le hi' (small5 hl)
    · rw [upd_ne (ne_of_none e hD)]
      exact sm _ _ e
    · rw [upd_same, List.replicate_succ']
  · rintro H1 ⟨sm, hd⟩
    refine ⟨_, List.replicate (tx bs).cps.size true, rfl, SqL.of (by rw [hd, List.map_replicate]), ?_⟩
    have e : (List.replicate (tx bs).cps.size true).all id = true := by simp
    rw [e]
    exact q _ sm
abbrev s_is_text_of : Stmt := top 29
abbrev N_is_text_of : List Str := ["value", "most"]
theorem sc_is_text_of : FnScope N_is_text_of ["value", "most"] (defScope s_is_text_of) := ⟨rfl, rfl, rfl, by decide +kernel, rfl, by decide +kernel, by decide +kernel⟩
theorem ok_is_text_of (F : Fun K "is_text_of" "is_text_of" s_is_text_of f fd) (T : Txt K mg aS a1 a2) (c_is_text : C8.Cal P w K mg base 1 "is_text" spIsText []) : FnOk P w K mg base CX0 2 f fd ["value", "most"] spIsTextOf := by
  refine F.ok sc_is_text_of (fun vs H Q E h => ?_) (fun cdv A outer s H vs Q E hr h => ?_)
  · obtain ⟨b, n, rfl, _⟩ := h
    rfl
  obtain ⟨bs, n, rfl, hl, q⟩ := h
  refine ⟨_, (pss_one (ps_ret (pe_and (C8.pe_c c_is_text hr (by decide) rfl (pa_cons (pv 0) pa_nil)) (pe_one (pe_cmpR op_le (pe_callB call_len_str rfl T.b_len bt_len (pa_cons (pv 0) pa_nil)) (pv 1) (nomark _)))))), ?_⟩
  refine ⟨_, rfl, bs, rfl, hl, fun H1 sm => ⟨_, rfl, iteT ?_⟩⟩
  refine ⟨_, rfl, _, rfl, by rw [tx_len]; exact small5 hl, _, rfl, _, _, rfl, rfl, ?_⟩
  rw [tx_len]
  exact q _ sm
abbrev s_want_stream : Stmt := top 53
abbrev N_want_stream : List Str := ["stream"]
theorem sc_want_stream : FnScope N_want_stream ["stream"] (defScope s_want_stream) := ⟨rfl, rfl, rfl, by decide +kernel, rfl, by decide +kernel, by decide +kernel⟩
theorem ok_want_stream (F : Fun K "want_stream" "want_stream" s_want_stream f fd) (T : Txt K mg aS a1 a2) (c_is_text_of : C8.Cal P w K mg base 2 "is_text_of" spIsTextOf []) : FnOk P w K mg base CX0 3 f fd ["stream"] spWantStream := by
  refine F.ok sc_want_stream (fun vs H Q E h => ?_) (fun cdv A outer s H vs Q E hr h => ?_)
  · obtain ⟨b, rfl, _⟩ := h
    rfl
  obtain ⟨bs, rfl, hl, q⟩ := h
  refine ⟨_, (pss_one (ps_if (pt_not (pt_val (C8.pe_c c_is_text_of hr (by decide) rfl (pa_cons (pv 0) (pa_cons (C8.pe_gc rfl T.g_MOST_STREAM) pa_nil)))))
        (pss_one ps_never)
        pss_nil)), ?_⟩
  refine ⟨_, rfl, bs, _, rfl, by omega, fun H1 sm => ⟨_, rfl, ?_⟩⟩
  rw [decide_eq_true (by omega)]
  exact iteF (q _ sm)
abbrev s_parts_of : Stmt := top 86
abbrev N_parts_of : List Str := ["term"]
theorem sc_parts_of : FnScope N_parts_of ["term"] (defScope s_parts_of) := ⟨rfl, rfl, rfl, by decide +kernel, rfl, by decide +kernel, by decide +kernel⟩
theorem ok_parts_of (F : Fun K "parts_of" "parts_of" s_parts_of f fd) (T : Txt K mg aS a1 a2) : FnOk P w K mg base CX0 1 f fd ["term"] spPartsOf := by
  refine F.ok sc_parts_of (fun vs H Q E h => ?_) (fun cdv A outer s H vs Q E hr h => ?_)
  · obtain ⟨b, t, rfl, _⟩ := h
    rfl
  obtain ⟨v, t, rfl, ta, hn, q⟩ := h
  refine ⟨_, (pss_cons (ps_if (pt_cmpR (kEqD K rfl hr.units) (pv 0) (C8.pe_gc rfl T.g_IN) (nomark _))
        (pss_one (ps_ret (pe_tup pa_nil)))
        pss_nil)
        (pss_cons (ps_if (PW.pt (pw_or (pt_cmpR (kIn K rfl) (pe_ix (kIxT K rfl) (pv 0) pe_int (fun _ _ => rfl)) (C8.pe_gc rfl T.g_OF_ONE) rfl) (pw_or1 (pt_cmpR (kIn K rfl) (pe_ix (kIxT K rfl) (pv 0) pe_int (fun _ _ => rfl)) (C8.pe_gc rfl T.g_OF_TWO) rfl))))
        (pss_one (ps_ret (pe_slice (kSlT K rfl) (pv 0) (po_some pe_int) po_none)))
        pss_nil)
        (pss_one (ps_ret (pe_slice (kSlT K rfl) (pv 0) (po_some pe_int) po_none))))), ?_⟩
  refine ⟨_, rfl, _, _, ta.dp, .str _, shp_dep hn, shp_in, _, rfl, ?_⟩
  rw [eqv_in]
  cases t with
  | inn => exact iteT ⟨by decide, fun p hp => q _ _ _ (same_new hp _) upd_same .nil⟩
  | one w t =>
    obtain ⟨a, x, rfl, h, r⟩ := ta
    refine iteF ?_
    refine ⟨_, rfl, _, _, _, _, rfl, rfl, SqT.of h, rfl, _, _, rfl, .inr (T.k_OF_ONE _), rfl, rfl, _, rfl, ?_⟩
    rw [o1w]
    refine iteT (iteT ?_)
    exact ⟨_, rfl, _, rfl, _, _, rfl, SqT.of h, nw1, fun p hp => q _ _ _ (same_new hp _) upd_same (.cons (r.keep (Tups.of (same_new hp _))) .nil)⟩
  | late b t =>
    obtain ⟨a, x, rfl, h, r⟩ := ta
    refine iteF ⟨_, rfl, _, _, _, _, rfl, rfl, SqT.of h, rfl, _, _, rfl, .inr (T.k_OF_ONE _), rfl, rfl, _, rfl, ?_⟩
    rw [o1l]
    refine iteF ⟨_, rfl, _, _, _, _, rfl, rfl, SqT.of h, rfl, _, _, rfl, .inr (T.k_OF_TWO _), rfl, rfl, _, rfl, ?_⟩
    rw [o2l]
    refine iteF ?_
    exact ⟨_, rfl, _, rfl, _, _, rfl, SqT.of h, nw2, fun p hp => q _ _ _ (same_new hp _) upd_same (.cons (r.keep (Tups.of (same_new hp _))) .nil)⟩
  | byy b1 b2 b3 b4 t u =>
    obtain ⟨a, x, y, rfl, h, r, r'⟩ := ta
    refine iteF ⟨_, rfl, _, _, _, _, rfl, rfl, SqT.of h, rfl, _, _, rfl, .inr (T.k_OF_ONE _), rfl, rfl, _, rfl, ?_⟩
    rw [o1b]
    refine iteF ⟨_, rfl, _, _, _, _, rfl, rfl, SqT.of h, rfl, _, _, rfl, .inr (T.k_OF_TWO _), rfl, rfl, _, rfl, ?_⟩
    rw [o2b]
    refine iteF ?_
    exact ⟨_, rfl, _, rfl, _, _, rfl, SqT.of h, nw2, fun p hp => q _ _ _ (same_new hp _) upd_same (.cons (r.keep (Tups.of (same_new hp _))) (.cons (r'.keep (Tups.of (same_new hp _))) .nil))⟩
  | keep t u =>
    obtain ⟨a, x, y, rfl, h, r, r'⟩ := ta
    refine iteF ⟨_, rfl, _, _, _, _, rfl, rfl, SqT.of h, rfl, _, _, rfl, .inr (T.k_OF_ONE _), rfl, rfl, _, rfl, ?_⟩
    rw [o1k]
    refine iteF ⟨_, rfl, _, _, _, _, rfl, rfl, SqT.of h, rfl, _, _, rfl, .inr (T.k_OF_TWO _), rfl, rfl, _, rfl, ?_⟩
    rw [o2k]
    refine iteT ?_
    exact ⟨_, rfl, _, rfl, _, _, rfl, SqT.of h, nw1, fun p hp => q _ _ _ (same_new hp _) upd_same (.cons (r.keep (Tups.of (same_new hp _))) (.cons (r'.keep (Tups.of (same_new hp _))) .nil))⟩
  | thn t u =>
    obtain ⟨a, x, y, rfl, h, r, r'⟩ := ta
    refine iteF ⟨_, rfl, _, _, _, _, rfl, rfl, SqT.of h, rfl, _, _, rfl, .inr (T.k_OF_ONE _), rfl, rfl, _, rfl, ?_⟩
    rw [o1t]
    refine iteF ⟨_, rfl, _, _, _, _, rfl, rfl, SqT.of h, rfl, _, _, rfl, .inr (T.k_OF_TWO _), rfl, rfl, _, rfl, ?_⟩
    rw [o2t]
    refine iteT ?_
    exact ⟨_, rfl, _, rfl, _, _, rfl, SqT.of h, nw1, fun p hp => q _ _ _ (same_new hp _) upd_same (.cons (r.keep (Tups.of (same_new hp _))) (.cons (r'.keep (Tups.of (same_new hp _))) .nil))⟩
abbrev s_has_shape : Stmt := top 87
abbrev N_has_shape : List Str := ["value"]
theorem sc_has_shape : FnScope N_has_shape ["value"] (defScope s_has_shape) := ⟨rfl, rfl, rfl, by decide +kernel, rfl, by decide +kernel, by decide +kernel⟩
theorem ok_has_shape (F : Fun K "has_shape" "has_shape" s_has_shape f fd) (T : Txt K mg aS a1 a2) (c_is_sign : C8.Cal P w K mg base 1 "is_sign" spIsSign []) (c_is_text : C8.Cal P w K mg base 1 "is_text" spIsText []) : FnOk P w K mg base CX0 2 f fd ["value"] spHasShape := by
  refine F.ok sc_has_shape (fun vs H Q E h => ?_) (fun cdv A outer s H vs Q E hr h => ?_)
  · obtain ⟨b, t, rfl, _⟩ := h
    rfl
  obtain ⟨v, t, rfl, ta, hn, q⟩ := h
  refine ⟨_, (pss_cons (ps_if (PW.pt (pw_or (pt_not (pt_val (pe_callB (kIsi K rfl) rfl T.b_isinstance bt_isinstance (pa_cons (pv 0) (pa_cons (pTy rfl T.b_tuple bt_tuple) pa_nil))))) (pw_or (pt_cmpR op_eq (pe_callB (kLen K rfl) rfl T.b_len bt_len (pa_cons (pv 0) pa_nil)) pe_int (nomark _)) (pw_or1 (pt_not (pt_val (pe_callB (kIsi K rfl) rfl T.b_isinstance bt_isinstance (pa_cons (pe_ix (kIxT K rfl) (pv 0) pe_int (fun _ _ => rfl)) (pa_cons (pTy rfl T.b_str bt_str) pa_nil)))))))))
        (pss_one (ps_ret pe_bl))
        pss_nil)
        (pss_cons (ps_if (pt_cmpR (kIn K rfl) (pe_ix (kIxT K rfl) (pv 0) pe_int (fun _ _ => rfl)) (C8.pe_gc rfl T.g_OF_ONE) rfl)
        (pss_one (ps_ret (pe_cmpR op_eq (pe_callB (kLen K rfl) rfl T.b_len bt_len (pa_cons (pv 0) pa_nil)) pe_int (nomark _))))
        pss_nil)
        (pss_cons (ps_if (pt_cmpR (kIn K rfl) (pe_ix (kIxT K rfl) (pv 0) pe_int (fun _ _ => rfl)) (C8.pe_gc rfl T.g_OF_TWO) rfl)
        (pss_one (ps_ret (pe_cmpR op_eq (pe_callB (kLen K rfl) rfl T.b_len bt_len (pa_cons (pv 0) pa_nil)) pe_int (nomark _))))
        pss_nil)
        (pss_cons (ps_if (pt_cmpR op_eq (pe_ix (kIxT K rfl) (pv 0) pe_int (fun _ _ => rfl)) (C8.pe_gc rfl T.g_LATE) (nomark _))
        (pss_one (ps_ret (pe_and (pe_cmpR op_eq (pe_callB (kLen K rfl) rfl T.b_len bt_len (pa_cons (pv 0) pa_nil)) pe_int (nomark _)) (pe_one (C8.pe_c c_is_sign hr (by decide) rfl (pa_cons (pe_ix (kIxT K rfl) (pv 0) pe_int (fun _ _ => rfl)) pa_nil))))))
        pss_nil)
        (pss_one (ps_ret (pe_and (pe_cmpR op_eq (pe_ix (kIxT K rfl) (pv 0) pe_int (fun _ _ => rfl)) (C8.pe_gc rfl T.g_BY) (nomark _)) (pe_and (pe_cmpR op_eq (pe_callB (kLen K rfl) rfl T.b_len bt_len (pa_cons (pv 0) pa_nil)) pe_int (nomark _)) (pe_and (C8.pe_c c_is_text hr (by decide) rfl (pa_cons (pe_ix (kIxT K rfl) (pv 0) pe_int (fun _ _ => rfl)) pa_nil)) (pe_one (pe_cmpR op_eq (pe_callB call_len_str rfl T.b_len bt_len (pa_cons (pe_ix (kIxT K rfl) (pv 0) pe_int (fun _ _ => rfl)) pa_nil)) pe_int (nomark _)))))))))))), ?_⟩
  cases t with
  | inn => cases hn
  | one w t =>
    obtain ⟨a, x, rfl, h, r⟩ := ta
    refine ⟨_, rfl, _, _, _, _, _, rfl, .ty _, ty_tup h, ktt, _, rfl, iteF ⟨_, rfl, _, _, rfl, .inr (SqT.of h), rfl, _, rfl, iteFd (by rw [dec_int]; rfl) ⟨_, rfl, _, _, _, _, rfl, rfl, SqT.of h, rfl, _, _, _, _, _, rfl, .ty _, ty_str _, kss, _, rfl, iteF ?_⟩⟩⟩
    refine ⟨_, rfl, _, _, _, _, rfl, rfl, SqT.of h, rfl, _, _, rfl, .inr (T.k_OF_ONE _), rfl, rfl, _, rfl, iteTd (o1w _) ?_⟩
    exact ⟨_, rfl, _, _, rfl, .inr (SqT.of h), rfl, q _ (Same.refl _)⟩
  | keep t u =>
    obtain ⟨a, x, y, rfl, h, r⟩ := ta
    refine ⟨_, rfl, _, _, _, _, _, rfl, .ty _, ty_tup h, ktt, _, rfl, iteF ⟨_, rfl, _, _, rfl, .inr (SqT.of h), rfl, _, rfl, iteFd (by rw [dec_int]; rfl) ⟨_, rfl, _, _, _, _, rfl, rfl, SqT.of h, rfl, _, _, _, _, _, rfl, .ty _, ty_str _, kss, _, rfl, iteF ?_⟩⟩⟩
    refine ⟨_, rfl, _, _, _, _, rfl, rfl, SqT.of h, rfl, _, _, rfl, .inr (T.k_OF_ONE _), rfl, rfl, _, rfl, iteFd o1k ?_⟩
    refine ⟨_, rfl, _, _, _, _, rfl, rfl, SqT.of h, rfl, _, _, rfl, .inr (T.k_OF_TWO _), rfl, rfl, _, rfl, iteTd o2k ?_⟩
    exact ⟨_, rfl, _, _, rfl, .inr (SqT.of h), rfl, q _ (Same.refl _)⟩
  | thn t u =>
    obtain ⟨a, x, y, rfl, h, r⟩ := ta
    refine ⟨_, rfl, _, _, _, _, _, rfl, .ty _, ty_tup h, ktt, _, rfl, iteF ⟨_, rfl, _, _, rfl, .inr (SqT.of h), rfl, _, rfl, iteFd (by rw [dec_int]; rfl) ⟨_, rfl, _, _, _, _, rfl, rfl, SqT.of h, rfl, _, _, _, _, _, rfl, .ty _, ty_str _, kss, _, rfl, iteF ?_⟩⟩⟩
    refine ⟨_, rfl, _, _, _, _, rfl, rfl, SqT.of h, rfl, _, _, rfl, .inr (T.k_OF_ONE _), rfl, rfl, _, rfl, iteFd o1t ?_⟩
    refine ⟨_, rfl, _, _, _, _, rfl, rfl, SqT.of h, rfl, _, _, rfl, .inr (T.k_OF_TWO _), rfl, rfl, _, rfl, iteTd o2t ?_⟩
    exact ⟨_, rfl, _, _, rfl, .inr (SqT.of h), rfl, q _ (Same.refl _)⟩
  | late b t =>
    obtain ⟨a, x, rfl, h, r⟩ := ta
    refine ⟨_, rfl, _, _, _, _, _, rfl, .ty _, ty_tup h, ktt, _, rfl, iteF ⟨_, rfl, _, _, rfl, .inr (SqT.of h), rfl, _, rfl, iteFd (by rw [dec_int]; rfl) ⟨_, rfl, _, _, _, _, rfl, rfl, SqT.of h, rfl, _, _, _, _, _, rfl, .ty _, ty_str _, kss, _, rfl, iteF ?_⟩⟩⟩
    refine ⟨_, rfl, _, _, _, _, rfl, rfl, SqT.of h, rfl, _, _, rfl, .inr (T.k_OF_ONE _), rfl, rfl, _, rfl, iteFd o1l ?_⟩
    refine ⟨_, rfl, _, _, _, _, rfl, rfl, SqT.of h, rfl, _, _, rfl, .inr (T.k_OF_TWO _), rfl, rfl, _, rfl, iteFd o2l ?_⟩
    refine ⟨_, rfl, _, _, _, _, rfl, rfl, SqT.of h, rfl, rfl, _, rfl, iteTd (by decide +kernel) ?_⟩
    refine ⟨_, rfl, _, _, rfl, .inr (SqT.of h), rfl, _, rfl, iteTd (by rw [dec_int]; rfl) ?_⟩
    exact ⟨_, rfl, _, _, _, _, rfl, rfl, SqT.of h, rfl, _, rfl, q _ (Same.refl _)⟩
  | byy b1 b2 b3 b4 t u =>
    obtain ⟨a, x, y, rfl, h, r⟩ := ta
    refine ⟨_, rfl, _, _, _, _, _, rfl, .ty _, ty_tup h, ktt, _, rfl, iteF ⟨_, rfl, _, _, rfl, .inr (SqT.of h), rfl, _, rfl, iteFd (by rw [dec_int]; rfl) ⟨_, rfl, _, _, _, _, rfl, rfl, SqT.of h, rfl, _, _, _, _, _, rfl, .ty _, ty_str _, kss, _, rfl, iteF ?_⟩⟩⟩
    refine ⟨_, rfl, _, _, _, _, rfl, rfl, SqT.of h, rfl, _, _, rfl, .inr (T.k_OF_ONE _), rfl, rfl, _, rfl, iteFd o1b ?_⟩
    refine ⟨_, rfl, _, _, _, _, rfl, rfl, SqT.of h, rfl, _, _, rfl, .inr (T.k_OF_TWO _), rfl, rfl, _, rfl, iteFd o2b ?_⟩
    refine ⟨_, rfl, _, _, _, _, rfl, rfl, SqT.of h, rfl, rfl, _, rfl, iteFd (by decide +kernel) ?_⟩
    refine ⟨_, rfl, _, _, _, _, rfl, rfl, SqT.of h, rfl, rfl, _, rfl, iteTd (by decide +kernel) ?_⟩
    refine ⟨_, rfl, _, _, rfl, .inr (SqT.of h), rfl, _, rfl, iteTd (by rw [dec_int]; rfl) ?_⟩
    refine ⟨_, rfl, _, _, _, _, rfl, rfl, SqT.of h, rfl, _, rfl, by simp, fun H1 sm => ⟨_, rfl, iteT ?_⟩⟩
    exact ⟨_, rfl, _, _, _, _, rfl, rfl, SqT.of (sm _ _ h), rfl, _, rfl, by rw [tx_len]; exact small5 (by simp), rfl, q _ sm⟩
end
end FY


set_option Elab.async false
set_option linter.all false
set_option pp.maxSteps 4000
set_option maxRecDepth 100000
set_option maxHeartbeats 4000000
namespace FY
open PySem L2 FYR
def sumN : List Tm → Nat
  | [] => 0
  | t :: r => t.nodes + sumN r
theorem sumN_app : ∀ a b : List Tm, sumN (a ++ b) = sumN a + sumN b
  | [], b => by simp [sumN]
  | t :: a, b => by simp [sumN, sumN_app a b]; omega
theorem sumN_parts (t : Tm) : sumN t.parts + 1 = t.nodes := by cases t <;> simp [Tm.parts, sumN, Tm.nodes] <;> omega
theorem sumN_len : ∀ ts : List Tm, ts.length ≤ sumN ts
  | [] => by simp
  | t :: r => by have := sumN_len r; have := t.nodes_pos; simp [sumN]; omega
theorem sumN_mem : ∀ (ts : List Tm) (t : Tm), t ∈ ts → t.nodes ≤ sumN ts
  | [], _, h => by simp at h
  | u :: r, t, h => by
    rcases List.mem_cons.mp h with rfl | h
    · simp [sumN]
    · have := sumN_mem r t h; simp [sumN]; omega
theorem dpAll {K : PySem.W.Frag} {H : Hp} : ∀ {ws : List V} {ts : List Tm}, Paired (TA H) ws ts → DpAll K H ws (ts.map Tm.data)
  | _, _, .nil => .nil
  | _, _, .cons r q => .cons r.dp (dpAll q)
theorem layAll : ∀ ts : List Tm, PyData.canLayAll0 (ts.map Tm.data) = true
  | [] => rfl
  | t :: r => by simp [PyData.canLayAll0, lay_tm, layAll r]
theorem depAll : ∀ ts : List Tm, PyData.depthAll (ts.map Tm.data) ≤ sumN ts
  | [] => by simp [PyData.depthAll]
  | t :: r => by have := depAll r; have := depth_tm t; simp [PyData.depthAll, sumN]; omega
theorem shpAll {ts : List Tm} (h : sumN ts ≤ 40) : SeqAt.shaped (.list (ts.map Tm.data)) = true := by
  unfold SeqAt.shaped
  have := depAll ts
  simp [PyData.canLay0, layAll, PyData.depth]
  omega
theorem shpNil : SeqAt.shaped (.list []) = true := by decide +kernel
theorem eqvNil (ts : List Tm) : PyData.eqv (.list (ts.map Tm.data)) (.list []) = ts.isEmpty := by
  cases ts <;> simp [PyData.eqv, PyData.eqvAll]
theorem paired_len {α β : Type} {R : α → β → Prop} : ∀ {a : List α} {b : List β}, Paired R a b → a.length = b.length
  | _, _, .nil => rfl
  | _, _, .cons _ q => by simp [paired_len q]
theorem paired_app {α β : Type} {R : α → β → Prop} : ∀ {a : List α} {b : List β} {c : List α} {d : List β}, Paired R a b → Paired R c d → Paired R (a ++ c) (b ++ d)
  | _, _, _, _, .nil, q => q
  | _, _, _, _, .cons r p, q => .cons r (paired_app p q)
/-- the last one -/
theorem paired_last {α β : Type} {R : α → β → Prop} {a : List α} {b : List β} (h : Paired R a b) (hb : b ≠ []) : ∃ a0 x b0 y, a = a0 ++ [x] ∧ b = b0 ++ [y] ∧ Paired R a0 b0 ∧ R x y := by
  induction h with
  | nil => exact absurd rfl hb
  | @cons x y as bs r q ih =>
    cases q with
    | nil => exact ⟨[], x, [], y, rfl, rfl, .nil, r⟩
    | cons r2 q2 =>
      obtain ⟨a0, x', b0, y', e1, e2, p, rr⟩ := ih (by simp)
      exact ⟨x :: a0, x', y :: b0, y', by rw [e1]; rfl, by rw [e2]; rfl, .cons r p, rr⟩
theorem _root_.L2.Same.trans' {H H1 H2 : Hp} (a : Same H H1) (b : Same H1 H2) : Same H H2 := fun x o e => b x o (a x o e)
theorem same_at {H H1 : Hp} {L : Addr} {o : HO} (a : Same H H1) (h : H L = none) : Same H (upd H1 L o) := fun b u e => by
  rw [upd_ne (ne_of_none e h)]
  exact a b u e
theorem tups_at {H1 : Hp} {L : Addr} {xs : List V} {o : HO} (h : H1 L = some (.lst xs)) : Tups H1 (upd H1 L o) := fun b ys e => by
  have : b ≠ L := fun q => by rw [q, h] at e; cases e
  rw [upd_ne this]
  exact e
def intAt (σ : St) (i : Nat) : Nat := match σ[i]? with
  | some (some (V.int m)) => m.toNat
  | _ => 0
theorem sz1 : 1 ≤ sizeLine := by decide
section
variable {P : Program} {w : World} {K : PySem.W.Frag} {mg : Str → Option Value} {base : Heap} {aS a1 a2 : Addr} {f : Addr} {fd : FuncData}
abbrev s_is_term : Stmt := top 88
abbrev N_is_term : List Str := ["value", "waiting", "many", "node"]
theorem sc_is_term : FnScope N_is_term ["value"] (defScope s_is_term) := ⟨rfl, rfl, rfl, by decide +kernel, rfl, by decide +kernel, by decide +kernel⟩
theorem ok_is_term (F : Fun K "is_term" "is_term" s_is_term f fd) (T : Txt K mg aS a1 a2) (c_has_shape : C8.Cal P w K mg base 2 "has_shape" spHasShape []) (c_parts_of : C8.Cal P w K mg base 1 "parts_of" spPartsOf []) : FnOk P w K mg base CX0 3 f fd ["value"] spIsTerm := by
  refine F.ok sc_is_term (fun vs H Q E h => ?_) (fun cdv A outer s H vs Q E hr h => ?_)
  · obtain ⟨b, t, rfl, _⟩ := h
    rfl
  obtain ⟨v, t, rfl, ta, hn, q⟩ := h
  refine ⟨_, (pss_cons (ps_par (i := 1) (j := 2) rfl sc_is_term.nd rfl rfl (by decide) rfl rfl (pa_cons (pe_lst (pa_cons (pv 0) pa_nil)) (pa_cons pe_int pa_nil)) rfl)
        (pss_cons (ps_while PassesOwn.never (pt_cmpR (kNeD K rfl hr.units) (pv 1) (pe_lst pa_nil) (nomark _))
        (pss_cons (ps_set (i := 3) sc_is_term.nd rfl (Or.inl rfl) (kBm0 K rfl PySem.F.plainAttrs_list PySem.F.slot_list_pop PySem.F.type_list_pop mt_pop (pv 1)))
        (pss_cons (ps_aug (i := 2) sc_is_term.nd rfl (Or.inl rfl) pe_int ip_add)
        (pss_cons (ps_if (pt_cmpR op_gt (pv 2) (C8.pe_gc rfl T.g_MOST_NODES) (nomark _))
        (pss_one (ps_ret pe_bl))
        pss_nil)
        (pss_one (ps_if (pt_not (pt_val (pe_callB (kIsi K rfl) rfl T.b_isinstance bt_isinstance (pa_cons (pv 3) (pa_cons (pTy rfl T.b_str bt_str) pa_nil)))))
        (pss_cons (ps_if (pt_not (pt_val (C8.pe_c c_has_shape hr (by decide) rfl (pa_cons (pv 3) pa_nil))))
        (pss_one (ps_ret pe_bl))
        pss_nil)
        (pss_one (ps_expr (kBm K rfl PySem.F.plainAttrs_list PySem.F.slot_list_extend PySem.F.type_list_extend (kExtT K rfl) (pv 1) (pa_cons (C8.pe_c c_parts_of hr (by decide) rfl (pa_cons (pv 3) pa_nil)) pa_nil)))))
        (pss_one (ps_if (pt_cmpR (kNeD K rfl hr.units) (pv 3) (C8.pe_gc rfl T.g_IN) (nomark _))
        (pss_one (ps_ret pe_bl))
        pss_nil))))))))
        (pss_one (ps_ret pe_bl)))), ?_⟩
  refine ⟨_, rfl, sz1, fun L hL => ⟨_, _, rfl, ?_⟩⟩
  refine while_by (fun σ H' => ∃ (ws : List V) (ts : List Tm) (m : Nat) (z : Option V), σ = [some v, some (.ref L), some (.int m), z] ∧ H' L = some (.lst ws) ∧ Paired (TA H') ws ts ∧ m + sumN ts = t.nodes ∧ m ≤ 9 ∧ Same H H')
    (fun σ _ => 100 - intAt σ 2) ?h0 ?hs ?mono
  case h0 => exact ⟨[v], [t], 0, _, rfl, upd_same, .cons (ta.keep (Tups.of (same_new hL _))) .nil, by simp [sumN], by omega, same_new hL _⟩
  case mono => exact fun σ H Q Q' m ⟨v, e, hl, f⟩ => ⟨v, e, hl, fun p hp => let ⟨d, e, h1, h2, h3, h4, b, hb, q⟩ := f p hp; ⟨d, e, h1, h2, h3, h4, b, hb, m _ _ q⟩⟩
  case hs =>
    rintro σ H1 ⟨ws, ts, m, z, rfl, hl, hp, hm, h9, sm⟩
    refine ⟨_, rfl, by decide, fun p0 hp0 => ?_⟩
    have k0 := same_new hp0 (.lst [])
    refine ⟨_, _, .lst (SqL.of (k0 _ _ hl)) (dpAll (paired_keep (Tups.of k0) hp)), .lst (SqL.of upd_same) .nil, shpAll (by omega), shpNil, _, rfl, ?_⟩
    rw [eqvNil]
    cases hts : ts with
    | nil =>
      subst hts
      refine iteFd rfl ?_
      have e : decide (t.nodes ≤ 9) = true := by simp [sumN] at hm; simp; omega
      have z := q _ (sm.trans' k0)
      rw [e] at z
      exact z
    | cons t0 r0 => 
      rw [← hts]
      have hne : ts ≠ [] := by rw [hts]; simp
      refine iteTd (by rw [hts]; rfl) ?_
      clear hts
      obtain ⟨ws0, x, ts0, y, rfl, rfl, hp1, hx⟩ := paired_last hp hne
      refine ⟨_, rfl, .inl ⟨rfl, _, SqL.of (k0 _ _ hl)⟩, _, _, x, rfl, rfl, k0 _ _ hl, by simp, ?_⟩
      rw [List.dropLast_concat]
      have hl2 : upd (upd H1 p0 (.lst [])) L (.lst ws0) L = some (.lst ws0) := upd_same
      have sm2 : Same H (upd (upd H1 p0 (.lst [])) L (.lst ws0)) := same_at (sm.trans' k0) hL
      have tu2 : Tups H1 (upd (upd H1 p0 (.lst [])) L (.lst ws0)) := (Tups.of k0).trans (tups_at (k0 _ _ hl))
      generalize upd (upd H1 p0 (.lst [])) L (.lst ws0) = H2 at *
      have hx2 := hx.keep tu2
      have hp2 := paired_keep tu2 hp1
      rw [sumN_app] at hm
      have hy0 : sumN [y] = y.nodes := by simp [sumN]
      have hy := y.nodes_pos
      refine ⟨_, rfl, _, _, rfl, rfl, ?_⟩
      refine ⟨_, rfl, _, _, rfl, rfl, _, rfl, ?_⟩
      by_cases m9 : m = 9
      · refine iteTd (by simp; omega) ?_
        have e : decide (t.nodes ≤ 9) = false := by simp; omega
        have z := q _ sm2
        rw [e] at z
        exact z
      refine iteFd (by simp; omega) ?_
      cases hin : y.isIn with
      | true =>
        have hyi : y = .inn := by cases y <;> first | rfl | cases hin
        subst hyi
        cases (show x = .str "in" from hx2)
        refine ⟨_, rfl, _, _, _, _, _, rfl, .ty _, ty_str _, kss, _, rfl, iteF ?_⟩
        refine ⟨_, rfl, _, _, .str _, .str _, shp_in, shp_in, _, rfl, iteFd (by decide +kernel) ?_⟩
        refine ⟨⟨ws0, ts0, m + 1, _, rfl, hl2, hp2, by have : Tm.inn.nodes = 1 := rfl; omega, by omega, sm2⟩, ?_⟩
        show 100 - ((m : Int) + 1).toNat < 100 - (m : Int).toNat
        omega
      | false =>
        obtain ⟨a, us, rfl, ha, hpa⟩ := hx2.node hin
        refine ⟨_, rfl, _, _, _, _, _, rfl, .ty _, ty_tup ha, kts, _, rfl, iteT ?_⟩
        refine ⟨_, rfl, _, y, rfl, hx2, hin, fun H3 s3 => ⟨_, rfl, iteF ?_⟩⟩
        refine ⟨_, rfl, .inl ⟨rfl, _, SqL.of (s3 _ _ hl2)⟩, _, rfl, _, y, rfl, hx2.keep (Tups.of s3), Nat.le_trans y.dep_le (by omega), fun H4 p ws' s4 hp4 pr4 => ?_⟩
        have hl4 := s4 _ _ (s3 _ _ hl2)
        have hwl := paired_len hp2
        have hwl' := paired_len pr4
        have l1 := sumN_len ts0
        have l2 := sumN_len y.parts
        have l3 := sumN_parts y
        have tu4 : Tups H2 (upd H4 L (.lst (ws0 ++ ws'))) := (Tups.of (s3.trans' s4)).trans (tups_at hl4)
        refine ⟨_, _, _, _, rfl, rfl, hl4, SqT.of hp4, small5 (by omega), ?_⟩
        refine ⟨⟨ws0 ++ ws', ts0 ++ y.parts, m + 1, _, rfl, upd_same, paired_app (paired_keep tu4 hp2) (paired_keep (tups_at hl4) pr4), by rw [sumN_app]; omega, by omega, same_at ((sm2.trans' s3).trans' s4) hL⟩, ?_⟩
        show 100 - ((m : Int) + 1).toNat < 100 - (m : Int).toNat
        omega
abbrev s_want_term : Stmt := top 89
abbrev N_want_term : List Str := ["value"]
theorem sc_want_term : FnScope N_want_term ["value"] (defScope s_want_term) := ⟨rfl, rfl, rfl, by decide +kernel, rfl, by decide +kernel, by decide +kernel⟩
theorem ok_want_term (F : Fun K "want_term" "want_term" s_want_term f fd) (T : Txt K mg aS a1 a2) (c_is_term : C8.Cal P w K mg base 3 "is_term" spIsTerm []) : FnOk P w K mg base CX0 4 f fd ["value"] spWantTerm := by
  refine F.ok sc_want_term (fun vs H Q E h => ?_) (fun cdv A outer s H vs Q E hr h => ?_)
  · obtain ⟨b, t, rfl, _⟩ := h
    rfl
  obtain ⟨v, t, rfl, ta, hn, q⟩ := h
  refine ⟨_, (pss_one (ps_if (pt_not (pt_val (C8.pe_c c_is_term hr (by decide) rfl (pa_cons (pv 0) pa_nil))))
        (pss_one ps_never)
        pss_nil)), ?_⟩
  refine ⟨_, rfl, _, t, rfl, ta, by omega, fun H1 sm => ⟨_, rfl, ?_⟩⟩
  rw [decide_eq_true hn]
  exact iteF (q _ sm)
end
/-! ## flows' parts -/
def spHalf : Sp := fun vs H Q _ => ∃ bs, vs = [.str (tx bs)] ∧ bs.length ≤ 100000 ∧ Q (.str (tx (halfL bs))) H
def spChanges : Sp := fun vs H Q _ => ∃ bs, vs = [.str (tx bs)] ∧ bs.length ≤ 100000 ∧ ∀ H', Same H H' → Q (.str (tx (chgL false bs))) H'
def spCounts : Sp := fun vs H Q _ => ∃ bs, vs = [.str (tx bs)] ∧ bs.length ≤ 100000 ∧ ∀ H', Same H H' → Q (.str (tx (cntL false bs))) H'
def spTurned : Sp := fun vs H Q _ => ∃ b, vs = [.str (sgn b)] ∧ Q (.str (sgn (!b))) H
section
variable {P : Program} {w : World} {K : PySem.W.Frag} {mg : Str → Option Value} {base : Heap} {aS a1 a2 : Addr} {f : Addr} {fd : FuncData}
abbrev s_half_of : Stmt := top 90
abbrev N_half_of : List Str := ["flow"]
theorem sc_half_of : FnScope N_half_of ["flow"] (defScope s_half_of) := ⟨rfl, rfl, rfl, by decide +kernel, rfl, by decide +kernel, by decide +kernel⟩
theorem ok_half_of (F : Fun K "half_of" "half_of" s_half_of f fd) (T : Txt K mg aS a1 a2) : FnOk P w K mg base CX0 1 f fd ["flow"] spHalf := by
  refine F.ok sc_half_of (fun vs H Q E h => ?_) (fun cdv A outer s H vs Q E hr h => ?_)
  · obtain ⟨b, rfl, _⟩ := h
    rfl
  obtain ⟨bs, rfl, hl, q⟩ := h
  refine ⟨_, (pss_one (ps_ret (pe_stepS (pv 0) (po_some pe_int) po_none (po_some pe_int)))), ?_⟩
  refine ⟨_, rfl, _, rfl, _, rfl, _, _, rfl, rfl, by decide, by rw [tx_len]; exact small5 hl, ?_⟩
  rw [step_tx]
  exact q
abbrev s_turned : Stmt := top 93
abbrev N_turned : List Str := ["sign"]
theorem sc_turned : FnScope N_turned ["sign"] (defScope s_turned) := ⟨rfl, rfl, rfl, by decide +kernel, rfl, by decide +kernel, by decide +kernel⟩
theorem ok_turned (F : Fun K "turned" "turned" s_turned f fd) (T : Txt K mg aS a1 a2) : FnOk P w K mg base CX0 1 f fd ["sign"] spTurned := by
  refine F.ok sc_turned (fun vs H Q E h => ?_) (fun cdv A outer s H vs Q E hr h => ?_)
  · obtain ⟨b, rfl, _⟩ := h
    rfl
  obtain ⟨b, rfl, q⟩ := h
  refine ⟨_, (pss_one (ps_ret (pe_ifExp (pt_cmpR op_eq (pv 0) pe_str (nomark _)) pe_str pe_str))), ?_⟩
  cases b with
  | true => exact ⟨_, rfl, rfl, _, rfl, iteFd (by decide +kernel) q⟩
  | false => exact ⟨_, rfl, rfl, _, rfl, iteTd (by decide +kernel) q⟩
end
end FY


set_option Elab.async false
set_option linter.all false
set_option maxRecDepth 100000
set_option maxHeartbeats 4000000
namespace FY
open PySem L2 FYR
abbrev vs (b : Bool) : V := .str (sgn b)
def b2i (b : Bool) : Int := if b then 1 else 0
theorem sg_ne (x y : Bool) : (!decide (V.str ⟨#[cd x]⟩ = V.str ⟨#[cd y]⟩)) = (x != y) := by cases x <;> cases y <;> decide +kernel
theorem sg_eq (x y : Bool) : decide (V.str ⟨#[cd x]⟩ = V.str ⟨#[cd y]⟩) = (x == y) := by cases x <;> cases y <;> decide +kernel
theorem take_one {α β : Type} (f : α → β) {l : List α} {i : Nat} {x : α} (h : l[i]? = some x) : (l.take i).map f ++ [f x] = (l.take (i + 1)).map f := by
  rw [List.take_succ, h]
  simp
theorem chg_get : ∀ (bs : List Bool) (l : Bool) (i : Nat) (x y : Bool), bs[i]? = some x → (l :: bs)[i]? = some y → (chgL l bs)[i]? = some (x != y)
  | [], l, i, x, y, h, _ => by simp at h
  | b :: r, l, 0, x, y, h, h2 => by simp at h h2; subst h; subst h2; simp [chgL]
  | b :: r, l, i + 1, x, y, h, h2 => by
    simp only [List.getElem?_cons_succ] at h h2
    simp only [chgL, List.getElem?_cons_succ]
    exact chg_get r b i x y h h2
theorem cnt_get : ∀ (bs : List Bool) (l : Bool) (i : Nat) (x y : Bool), bs[i]? = some x → (l :: cntL l bs)[i]? = some y → (cntL l bs)[i]? = some (x != y)
  | [], l, i, x, y, h, _ => by simp at h
  | b :: r, l, 0, x, y, h, h2 => by simp at h h2; subst h; subst h2; simp [cntL]
  | b :: r, l, i + 1, x, y, h, h2 => by
    simp only [List.getElem?_cons_succ] at h
    simp only [cntL, List.getElem?_cons_succ] at h2 ⊢
    exact cnt_get r (b != l) i x y h h2
theorem jsum : ∀ bs : List Bool, ((bs.map sgn).map (·.length)).sum = bs.length
  | [] => rfl
  | b :: r => by
    have := jsum r
    simp only [List.map_cons, List.sum_cons, List.length_cons, this]
    have : (sgn b).length = 1 := rfl
    omega
theorem joinEnd {K : PySem.W.Frag} {H : Hp} {D : Addr} {bs : List Bool} {R : VK} (h : H D = some (.lst (bs.map vs))) (hl : bs.length ≤ 100000) (q : R (.str (tx bs)) H) : rJoin K (.str "") [.ref D] H R := by
  refine ⟨"", D, bs.map sgn, rfl, rfl, .inl (SqL.of (by rw [h, List.map_map]; rfl)), ?_, ?_⟩
  · rw [jsum, show ("" : Str).length = 0 from rfl]
    omega
  · rw [se, join_sgn]
    exact q
theorem tx_char {bs : List Bool} {i c : Nat} (h : (tx bs).cps[i]? = some c) : ∃ b, bs[i]? = some b ∧ c = cd b := by
  rw [tx_get] at h
  obtain ⟨b, hb, rfl⟩ := Option.map_eq_some_iff.mp h
  exact ⟨b, hb, rfl⟩
theorem sl640 (c : Nat) : ({ cps := #[c] } : Str).length ≤ 640 := by
  show 1 ≤ 640
  decide
theorem lt_len {α : Type} {l : List α} {i : Nat} {x : α} (h : l[i]? = some x) : i < l.length := (List.getElem?_eq_some_iff.mp h).1
theorem take_len_le {α β : Type} (f : α → β) (l : List α) (i : Nat) (hl : i < 100000) : ((l.take i).map f).length < sizeLine := by
  rw [List.length_map, List.length_take]
  exact Nat.lt_of_lt_of_le (show min i l.length < 100000 by omega) (by decide)
section
variable {P : Program} {w : World} {K : PySem.W.Frag} {mg : Str → Option Value} {base : Heap} {aS a1 a2 : Addr} {f : Addr} {fd : FuncData}
abbrev s_changes_of : Stmt := top 91
abbrev N_changes_of : List Str := ["flow", "sign", "ahead"]
theorem sc_changes_of : FnScope N_changes_of ["flow"] (defScope s_changes_of) := ⟨rfl, rfl, rfl, by decide +kernel, rfl, by decide +kernel, by decide +kernel⟩
theorem ok_changes_of (F : Fun K "changes_of" "changes_of" s_changes_of f fd) (T : Txt K mg aS a1 a2) : FnOk P w K mg base CX0 1 f fd ["flow"] spChanges := by
  refine F.ok sc_changes_of (fun vs H Q E h => ?_) (fun cdv A outer s H vs Q E hr h => ?_)
  · obtain ⟨b, rfl, _⟩ := h
    rfl
  obtain ⟨bs, rfl, hl, q⟩ := h
  refine ⟨_, (pss_one (ps_ret (kJoin K rfl pe_str (pe_lc (own := [("sign", 1), ("ahead", 2)]) rfl sc_changes_of.nd (pi_zipS rfl T.b_zip (pa_cons (pv 0) (pa_cons (pe_op op_add_str pe_str (pv 0)) pa_nil))) (blkOk_by (N := N_changes_of) (sc := defScope s_changes_of) (by decide +kernel)) (fun _ _ _ _ _ => (kTupG (n := 2) K rfl rfl (pgs_cons (pg_name (i := 1) sc_changes_of.nd rfl (Or.inl rfl)) (pgs_cons (pg_name (i := 2) sc_changes_of.nd rfl (Or.inl rfl)) pgs_nil)))) (fun _ _ _ _ _ => pts_nil) (fun _ _ _ _ _ => (pe_callTy call_str_int rfl T.b_str bt_str (pa_cons (pe_callTy call_int1 rfl T.b_int bt_int (pa_cons (pe_cmpR op_ne (pv 1) (pv 2) (nomark _)) pa_nil)) pa_nil))))))), ?_⟩
  have e0 : ("0" : Str) ++ tx bs = tx (false :: bs) := by rw [s0, sgn_tx, tx_app]; rfl
  have hsz : (min (tx bs).cps.size (tx (false :: bs)).cps.size) = bs.length := by rw [tx_size, tx_size]; simp
  refine ⟨⟨_, rfl⟩, _, rfl, _, rfl, _, _, rfl, rfl, ?_, ?_⟩
  · rw [tx_len]; exact Nat.le_trans (show _ ≤ 100001 by show 1 + bs.length ≤ 100001; omega) (by decide)
  rw [e0]
  refine ⟨_, _, rfl, fun D hD => lc_it walk_zipS (fun i H' => Same H H' ∧ H' D = some (.lst (((chgL false bs).take i).map vs))) ⟨same_new hD _, upd_same⟩ (fun _ _ _ _ => trivial) ?_ ?_⟩
  · rintro i x H1 H2 hi ⟨sm, hd⟩ ⟨t, c, d, rfl, ht, rfl, hc, hd2⟩
    obtain ⟨x, hx, rfl⟩ := tx_char hc
    obtain ⟨y, hy, rfl⟩ := tx_char hd2
    have hg := chg_get bs false i x y hx hy
    have hil := lt_len hx
    refine ⟨_, _, rfl, SqT.of upd_same, rfl, _, _, rfl, _, _, rfl, rfl, rfl, tyI ?_⟩
    refine ⟨_, rfl, _, rfl, rfl, .inr ⟨_, rfl, _, rfl, ?_, ?_⟩⟩
    · rw [sg_ne]
      cases (x != y) <;> decide
    have hDt : D ≠ t := fun z => by rw [z, ht] at hd; cases hd
    rw [sg_ne]
    refine ⟨_, (upd_ne hDt).trans hd, take_len_le _ _ _ (by omega), same_at (sm.trans' (same_new ht _)) hD, ?_⟩
    rw [upd_same, ← take_one _ hg]
    rw [show ((toString (if (x != y) = true then (1 : Int) else 0) : String) : Str) = sgn (x != y) from str_bit _]
  · rintro H1 ⟨sm, hd⟩
    rw [hsz, List.take_of_length_le (by rw [chgL_len]; omega)] at hd
    exact joinEnd hd (by rw [chgL_len]; exact hl) (q _ sm)
abbrev s_counts_of : Stmt := top 92
abbrev N_counts_of : List Str := ["flow", "found", "odd", "sign"]
theorem sc_counts_of : FnScope N_counts_of ["flow"] (defScope s_counts_of) := ⟨rfl, rfl, rfl, by decide +kernel, rfl, by decide +kernel, by decide +kernel⟩
theorem ok_counts_of (F : Fun K "counts_of" "counts_of" s_counts_of f fd) (T : Txt K mg aS a1 a2) : FnOk P w K mg base CX0 1 f fd ["flow"] spCounts := by
  refine F.ok sc_counts_of (fun vs H Q E h => ?_) (fun cdv A outer s H vs Q E hr h => ?_)
  · obtain ⟨b, rfl, _⟩ := h
    rfl
  obtain ⟨bs, rfl, hl, q⟩ := h
  refine ⟨_, (pss_cons (ps_par (i := 1) (j := 2) rfl sc_counts_of.nd rfl rfl (by decide) rfl rfl (pa_cons (pe_lst pa_nil) (pa_cons pe_int pa_nil)) rfl)
        (pss_cons (ps_for PassesOwn.never rfl (pi_str (pv 0)) (pg_name (i := 3) sc_counts_of.nd rfl (Or.inl rfl))
        (pss_cons (ps_set (i := 2) sc_counts_of.nd rfl (Or.inl rfl) (pe_op op_mod (pe_op op_add (pv 2) (pe_callTy call_int_str rfl T.b_int bt_int (pa_cons (pv 3) pa_nil))) pe_int))
        (pss_one (ps_expr (kBm K rfl PySem.F.plainAttrs_list PySem.F.slot_list_append PySem.F.type_list_append mt_append (pv 1) (pa_cons (pe_callTy call_str_int rfl T.b_str bt_str (pa_cons (pv 2) pa_nil)) pa_nil))))))
        (pss_one (ps_ret (kJoin K rfl pe_str (pv 1)))))), ?_⟩
  refine ⟨Nat.zero_le _, fun L hL => ⟨_, _, rfl, _, rfl, _, rfl, for_it walk_str (fun i σ H' => ∃ (y : Bool) (z : Option V), σ = [some (.str (tx bs)), some (.ref L), some (.int (b2i y)), z] ∧ (false :: cntL false bs)[i]? = some y ∧ H' L = some (.lst (((cntL false bs).take i).map vs)) ∧ Same H H') ⟨false, _, rfl, rfl, upd_same, same_new hL _⟩ (fun _ _ _ _ _ => trivial) ?_ ?_⟩⟩
  · rintro i x σ H1 H2 hi ⟨y, z, rfl, hy, hd, sm⟩ ⟨rfl, c, hc, rfl⟩
    obtain ⟨x, hx, rfl⟩ := tx_char hc
    have hg := cnt_get bs false i x y hx hy
    have hil := lt_len hx
    refine ⟨_, rfl, _, rfl, _, _, rfl, int_sgn x, sl640 _, _, _, rfl, rfl, _, _, rfl, rfl, (by decide : (0 : Int) < 2), ?_⟩
    have e : (b2i y + if x = true then 1 else 0) % 2 = b2i (x != y) := by cases x <;> cases y <;> rfl
    simp only [e]
    refine ⟨_, rfl, .inl ⟨rfl, _, SqL.of hd⟩, _, rfl, _, rfl, by cases (x != y) <;> decide, _, _, _, rfl, rfl, hd, take_len_le _ _ _ (by omega), ?_⟩
    refine ⟨x != y, _, rfl, by rw [List.getElem?_cons_succ]; exact hg, ?_, same_at sm hL⟩
    rw [upd_same, ← take_one _ hg]
    rw [show ((toString (b2i (x != y)) : String) : Str) = sgn (x != y) from str_bit _]
  · rintro σ H1 ⟨y, z, rfl, hy, hd, sm⟩
    rw [tx_size, List.take_of_length_le (by rw [cntL_len]; omega)] at hd
    refine ⟨⟨_, rfl⟩, _, rfl, ?_⟩
    exact joinEnd hd (by rw [cntL_len]; exact hl) (q _ sm)
end
theorem flat_dbl : ∀ bs : List Bool, (bs.map fun b => [b, b]).flatten = dblL bs
  | [] => rfl
  | b :: r => by
    have h := flat_dbl r
    simp only [List.map_cons, List.flatten_cons, dblL, ← h]
    rfl
theorem jsumL : ∀ ys : List (List Bool), ((ys.map tx).map (·.length)).sum = ys.flatten.length
  | [] => rfl
  | y :: r => by
    have := jsumL r
    simp only [List.map_cons, List.sum_cons, List.flatten_cons, List.length_append, this, tx_len]
theorem joinEndL {K : PySem.W.Frag} {H : Hp} {D : Addr} {ys : List (List Bool)} {R : VK} (h : H D = some (.lst (ys.map fun y => V.str (tx y)))) (hl : ys.flatten.length ≤ 1000000) (q : R (.str (tx ys.flatten)) H) : rJoin K (.str "") [.ref D] H R := by
  refine ⟨"", D, ys.map tx, rfl, rfl, .inl (SqL.of (by rw [h, List.map_map]; rfl)), ?_, ?_⟩
  · rw [jsumL, show ("" : Str).length = 0 from rfl]
    omega
  · rw [se, join_tx]
    exact q
theorem by_get (a b c d : Bool) : ∀ (f g : List Bool) (i : Nat) (x y : Bool), f[i]? = some x → g[i]? = some y → (byL a b c d f g)[i]? = some (if x then (if y then d else c) else (if y then b else a))
  | [], g, i, x, y, h, _ => by simp at h
  | _ :: _, [], i, x, y, _, h => by simp at h
  | u :: r, v :: s, 0, x, y, h, h2 => by simp at h h2; subst h; subst h2; simp [byL]
  | u :: r, v :: s, i + 1, x, y, h, h2 => by
    simp only [List.getElem?_cons_succ] at h h2
    simp only [byL, List.getElem?_cons_succ]
    exact by_get a b c d r s i x y h h2
theorem by_len (a b c d : Bool) : ∀ (f g : List Bool), (byL a b c d f g).length = min f.length g.length
  | [], g => by simp [byL]
  | _ :: _, [] => by simp [byL]
  | u :: r, v :: s => by
    have := by_len a b c d r s
    simp only [byL, List.length_cons, this]
    omega
theorem keep_snoc : ∀ (f g : List Bool) (i : Nat) (x y : Bool), f[i]? = some x → g[i]? = some y → keepL (f.take (i + 1)) (g.take (i + 1)) = keepL (f.take i) (g.take i) ++ (if y then [x] else [])
  | [], g, i, x, y, h, _ => by simp at h
  | _ :: _, [], i, x, y, _, h => by simp at h
  | u :: r, v :: s, 0, x, y, h, h2 => by simp at h h2; subst h; subst h2; cases v <;> simp [keepL]
  | u :: r, v :: s, i + 1, x, y, h, h2 => by
    simp only [List.getElem?_cons_succ] at h h2
    have := keep_snoc r s i x y h h2
    rw [List.take_succ_cons, List.take_succ_cons, List.take_succ_cons, List.take_succ_cons]
    cases v
    · simp only [keepL]; exact this
    · simp only [keepL, if_true, this]; rfl
theorem keep_all : ∀ (f g : List Bool), keepL (f.take (min f.length g.length)) (g.take (min f.length g.length)) = keepL f g
  | [], g => by simp [keepL]
  | _ :: _, [] => by simp [keepL]
  | u :: r, v :: s => by
    have := keep_all r s
    rw [show min (u :: r).length (v :: s).length = min r.length s.length + 1 by simp only [List.length_cons]; omega, List.take_succ_cons, List.take_succ_cons]
    cases v
    · simp only [keepL]; exact this
    · simp only [keepL, this]
def spOfOne : Sp := fun vs H Q _ => ∃ v t bs, vs = [v, .str (tx bs)] ∧ TA H v t ∧ t.parts.length = 1 ∧ bs.length ≤ 40000 ∧ ∀ H', Same H H' → Q (.str (tx (op1 t bs))) H'
def spOfTwo : Sp := fun vs H Q _ => ∃ v t fs gs, vs = [v, .str (tx fs), .str (tx gs)] ∧ TA H v t ∧ t.parts.length = 2 ∧ t.word ≠ "then" ∧ fs.length ≤ 40000 ∧ ∀ H', Same H H' → Q (.str (tx (op2 t fs gs))) H'
section
variable {P : Program} {w : World} {K : PySem.W.Frag} {mg : Str → Option Value} {base : Heap} {aS a1 a2 : Addr} {f : Addr} {fd : FuncData}
abbrev s_of_one : Stmt := top 94
abbrev N_of_one : List Str := ["term", "flow", "sign"]
theorem sc_of_one : FnScope N_of_one ["term", "flow"] (defScope s_of_one) := ⟨rfl, rfl, rfl, by decide +kernel, rfl, by decide +kernel, by decide +kernel⟩
theorem ok_of_one (F : Fun K "of_one" "of_one" s_of_one f fd) (T : Txt K mg aS a1 a2) (c_half_of : C8.Cal P w K mg base 1 "half_of" spHalf []) (c_turned : C8.Cal P w K mg base 1 "turned" spTurned []) (c_changes_of : C8.Cal P w K mg base 1 "changes_of" spChanges []) (c_counts_of : C8.Cal P w K mg base 1 "counts_of" spCounts []) : FnOk P w K mg base CX0 2 f fd ["term", "flow"] spOfOne := by
  refine F.ok sc_of_one (fun vs H Q E h => ?_) (fun cdv A outer s H vs Q E hr h => ?_)
  · obtain ⟨b, t, bs, rfl, _⟩ := h
    rfl
  obtain ⟨v, t, bs, rfl, ta, hp, hl, q⟩ := h
  refine ⟨_, (pss_cons (ps_if (pt_cmpR op_eq (pe_ix (kIxT K rfl) (pv 0) pe_int (fun _ _ => rfl)) pe_str (nomark _))
        (pss_one (ps_ret (kJoin K rfl pe_str (pe_lc (own := [("sign", 2)]) rfl sc_of_one.nd (pi_str (pv 1)) (blkOk_by (N := N_of_one) (sc := defScope s_of_one) (by decide +kernel)) (fun _ _ _ _ _ => (pg_name (i := 2) sc_of_one.nd rfl (Or.inl rfl))) (fun _ _ _ _ _ => pts_nil) (fun _ _ _ _ _ => (C8.pe_c c_turned hr (by decide) rfl (pa_cons (pv 2) pa_nil)))))))
        pss_nil)
        (pss_cons (ps_if (pt_cmpR op_eq (pe_ix (kIxT K rfl) (pv 0) pe_int (fun _ _ => rfl)) (C8.pe_gc rfl T.g_LATE) (nomark _))
        (pss_one (ps_ret (pe_slice sl_str (pe_op op_add_str (pe_ix (kIxT K rfl) (pv 0) pe_int (fun _ _ => rfl)) (pv 1)) po_none (po_some (pe_callB call_len_str rfl T.b_len bt_len (pa_cons (pv 1) pa_nil))))))
        pss_nil)
        (pss_cons (ps_if (pt_cmpR op_eq (pe_ix (kIxT K rfl) (pv 0) pe_int (fun _ _ => rfl)) pe_str (nomark _))
        (pss_one (ps_ret (kJoin K rfl pe_str (pe_lc (own := [("sign", 2)]) rfl sc_of_one.nd (pi_str (pv 1)) (blkOk_by (N := N_of_one) (sc := defScope s_of_one) (by decide +kernel)) (fun _ _ _ _ _ => (pg_name (i := 2) sc_of_one.nd rfl (Or.inl rfl))) (fun _ _ _ _ _ => pts_nil) (fun _ _ _ _ _ => (pe_op op_add_str (pv 2) (pv 2)))))))
        pss_nil)
        (pss_cons (ps_if (pt_cmpR op_eq (pe_ix (kIxT K rfl) (pv 0) pe_int (fun _ _ => rfl)) pe_str (nomark _))
        (pss_one (ps_ret (C8.pe_c c_half_of hr (by decide) rfl (pa_cons (pv 1) pa_nil))))
        pss_nil)
        (pss_one (ps_ret (pe_ifExp (pt_cmpR op_eq (pe_ix (kIxT K rfl) (pv 0) pe_int (fun _ _ => rfl)) pe_str (nomark _)) (C8.pe_c c_changes_of hr (by decide) rfl (pa_cons (pv 1) pa_nil)) (C8.pe_c c_counts_of hr (by decide) rfl (pa_cons (pv 1) pa_nil))))))))), ?_⟩
  cases t with
  | inn => cases hp
  | byy _ _ _ _ _ _ => cases hp
  | keep _ _ => cases hp
  | thn _ _ => cases hp
  | late b t =>
    obtain ⟨a, x, rfl, h, r⟩ := ta
    refine ⟨_, rfl, _, _, _, _, rfl, rfl, SqT.of h, rfl, rfl, _, rfl, iteFd (by decide +kernel) ?_⟩
    refine ⟨_, rfl, _, _, _, _, rfl, rfl, SqT.of h, rfl, rfl, _, rfl, iteTd (by decide +kernel) ?_⟩
    refine ⟨_, rfl, _, _, _, _, rfl, rfl, SqT.of h, rfl, _, rfl, _, _, rfl, rfl, ?_, _, rfl, _, rfl, by rw [tx_len]; exact small5 (by omega), _, rfl, _, rfl, ?_, ?_⟩
    · rw [tx_len]; exact small5 (show 1 + bs.length ≤ 100000 by omega)
    · rw [sgn_tx, tx_app, tx_len]; exact small5 (by simp; omega)
    rw [sgn_tx, tx_app, tx_len, cut_to]
    exact q _ (Same.refl _)
  | one w t =>
    obtain ⟨a, x, rfl, h, r⟩ := ta
    cases w with
    | no =>
      refine ⟨_, rfl, _, _, _, _, rfl, rfl, SqT.of h, rfl, rfl, _, rfl, iteTd (by decide +kernel) ?_⟩
      refine ⟨⟨_, rfl⟩, _, rfl, _, rfl, fun D hD => lc_it walk_str (fun i H' => Same H H' ∧ H' D = some (.lst (((bs.map (!·)).take i).map vs))) ⟨same_new hD _, upd_same⟩ (fun _ _ _ _ => trivial) ?_ ?_⟩
      · rintro i x H1 H2 hi ⟨sm, hd⟩ ⟨rfl, c, hc, rfl⟩
        obtain ⟨x, hx, rfl⟩ := tx_char hc
        have hil := lt_len hx
        refine ⟨rfl, tyI ⟨_, rfl, x, rfl, _, hd, take_len_le _ _ _ (by omega), same_at sm hD, ?_⟩⟩
        rw [upd_same, ← take_one _ (show (bs.map (!·))[i]? = some (!x) by simp [hx])]
      · rintro H1 ⟨sm, hd⟩
        rw [tx_size, List.take_of_length_le (by simp)] at hd
        exact joinEnd hd (by simp; omega) (q _ sm)
    | twice =>
      refine ⟨_, rfl, _, _, _, _, rfl, rfl, SqT.of h, rfl, rfl, _, rfl, iteFd (by decide +kernel) ?_⟩
      refine ⟨_, rfl, _, _, _, _, rfl, rfl, SqT.of h, rfl, rfl, _, rfl, iteFd (by decide +kernel) ?_⟩
      refine ⟨_, rfl, _, _, _, _, rfl, rfl, SqT.of h, rfl, rfl, _, rfl, iteTd (by decide +kernel) ?_⟩
      refine ⟨⟨_, rfl⟩, _, rfl, _, rfl, fun D hD => lc_it walk_str (fun i H' => Same H H' ∧ H' D = some (.lst (((bs.map fun b => [b, b]).take i).map fun y => V.str (tx y)))) ⟨same_new hD _, upd_same⟩ (fun _ _ _ _ => trivial) ?_ ?_⟩
      · rintro i x H1 H2 hi ⟨sm, hd⟩ ⟨rfl, c, hc, rfl⟩
        obtain ⟨x, hx, rfl⟩ := tx_char hc
        have hil := lt_len hx
        refine ⟨rfl, tyI ⟨_, rfl, _, rfl, _, _, rfl, rfl, ?_, _, hd, take_len_le _ _ _ (by omega), same_at sm hD, ?_⟩⟩
        · exact small5 (show 1 + 1 ≤ 100000 by decide)
        rw [upd_same, ← take_one _ (show (bs.map fun b => [b, b])[i]? = some [x, x] by simp [hx])]
        rw [show (({ cps := #[cd x] } : Str) ++ ({ cps := #[cd x] } : Str)) = tx [x, x] from tx_app [x] [x]]
      · rintro H1 ⟨sm, hd⟩
        rw [tx_size, List.take_of_length_le (by simp)] at hd
        refine joinEndL hd (by rw [flat_dbl, dblL_len]; omega) ?_
        rw [flat_dbl]
        exact q _ sm
    | half =>
      refine ⟨_, rfl, _, _, _, _, rfl, rfl, SqT.of h, rfl, rfl, _, rfl, iteFd (by decide +kernel) ?_⟩
      refine ⟨_, rfl, _, _, _, _, rfl, rfl, SqT.of h, rfl, rfl, _, rfl, iteFd (by decide +kernel) ?_⟩
      refine ⟨_, rfl, _, _, _, _, rfl, rfl, SqT.of h, rfl, rfl, _, rfl, iteFd (by decide +kernel) ?_⟩
      refine ⟨_, rfl, _, _, _, _, rfl, rfl, SqT.of h, rfl, rfl, _, rfl, iteTd (by decide +kernel) ?_⟩
      exact ⟨_, rfl, bs, rfl, by omega, q _ (Same.refl _)⟩
    | change =>
      refine ⟨_, rfl, _, _, _, _, rfl, rfl, SqT.of h, rfl, rfl, _, rfl, iteFd (by decide +kernel) ?_⟩
      refine ⟨_, rfl, _, _, _, _, rfl, rfl, SqT.of h, rfl, rfl, _, rfl, iteFd (by decide +kernel) ?_⟩
      refine ⟨_, rfl, _, _, _, _, rfl, rfl, SqT.of h, rfl, rfl, _, rfl, iteFd (by decide +kernel) ?_⟩
      refine ⟨_, rfl, _, _, _, _, rfl, rfl, SqT.of h, rfl, rfl, _, rfl, iteFd (by decide +kernel) ?_⟩
      refine ⟨_, rfl, _, _, _, _, rfl, rfl, SqT.of h, rfl, rfl, _, rfl, iteTd (by decide +kernel) ?_⟩
      exact ⟨_, rfl, bs, rfl, by omega, q⟩
    | count =>
      refine ⟨_, rfl, _, _, _, _, rfl, rfl, SqT.of h, rfl, rfl, _, rfl, iteFd (by decide +kernel) ?_⟩
      refine ⟨_, rfl, _, _, _, _, rfl, rfl, SqT.of h, rfl, rfl, _, rfl, iteFd (by decide +kernel) ?_⟩
      refine ⟨_, rfl, _, _, _, _, rfl, rfl, SqT.of h, rfl, rfl, _, rfl, iteFd (by decide +kernel) ?_⟩
      refine ⟨_, rfl, _, _, _, _, rfl, rfl, SqT.of h, rfl, rfl, _, rfl, iteFd (by decide +kernel) ?_⟩
      refine ⟨_, rfl, _, _, _, _, rfl, rfl, SqT.of h, rfl, rfl, _, rfl, iteFd (by decide +kernel) ?_⟩
      exact ⟨_, rfl, bs, rfl, by omega, q⟩
abbrev s_of_two : Stmt := top 95
abbrev N_of_two : List Str := ["term", "one", "other", "sign", "mate"]
theorem sc_of_two : FnScope N_of_two ["term", "one", "other"] (defScope s_of_two) := ⟨rfl, rfl, rfl, by decide +kernel, rfl, by decide +kernel, by decide +kernel⟩
theorem ok_of_two (F : Fun K "of_two" "of_two" s_of_two f fd) (T : Txt K mg aS a1 a2) : FnOk P w K mg base CX0 1 f fd ["term", "one", "other"] spOfTwo := by
  refine F.ok sc_of_two (fun vs H Q E h => ?_) (fun cdv A outer s H vs Q E hr h => ?_)
  · obtain ⟨b, t, fs, gs, rfl, _⟩ := h
    rfl
  obtain ⟨v, t, fs, gs, rfl, ta, hp, hw, hl, q⟩ := h
  refine ⟨_, (pss_cons (ps_if (pt_cmpR op_eq (pe_ix (kIxT K rfl) (pv 0) pe_int (fun _ _ => rfl)) (C8.pe_gc rfl T.g_KEEP) (nomark _))
        (pss_one (ps_ret (kJoin K rfl pe_str (pe_lc (own := [("sign", 3), ("mate", 4)]) rfl sc_of_two.nd (pi_zipS rfl T.b_zip (pa_cons (pv 1) (pa_cons (pv 2) pa_nil))) (blkOk_by (N := N_of_two) (sc := defScope s_of_two) (by decide +kernel)) (fun _ _ _ _ _ => (kTupG (n := 2) K rfl rfl (pgs_cons (pg_name (i := 3) sc_of_two.nd rfl (Or.inl rfl)) (pgs_cons (pg_name (i := 4) sc_of_two.nd rfl (Or.inl rfl)) pgs_nil)))) (fun _ _ _ _ _ => pts_one (pt_cmpR op_eq (pv 4) pe_str (nomark _))) (fun _ _ _ _ _ => (pv 3))))))
        pss_nil)
        (pss_one (ps_ret (kJoin K rfl pe_str (pe_lc (own := [("sign", 3), ("mate", 4)]) rfl sc_of_two.nd (pi_zipS rfl T.b_zip (pa_cons (pv 1) (pa_cons (pv 2) pa_nil))) (blkOk_by (N := N_of_two) (sc := defScope s_of_two) (by decide +kernel)) (fun _ _ _ _ _ => (kTupG (n := 2) K rfl rfl (pgs_cons (pg_name (i := 3) sc_of_two.nd rfl (Or.inl rfl)) (pgs_cons (pg_name (i := 4) sc_of_two.nd rfl (Or.inl rfl)) pgs_nil)))) (fun _ _ _ _ _ => pts_nil) (fun _ _ _ _ _ => (pe_ix ix_str (pe_ix (kIxT K rfl) (pv 0) pe_int (fun _ _ => rfl)) (pe_op op_add (pe_op op_mul pe_int (pe_callTy call_int_str rfl T.b_int bt_int (pa_cons (pv 3) pa_nil))) (pe_callTy call_int_str rfl T.b_int bt_int (pa_cons (pv 4) pa_nil))) (fun _ _ => rfl)))))))), ?_⟩
  have hsz : (min (tx fs).cps.size (tx gs).cps.size) = min fs.length gs.length := by rw [tx_size, tx_size]
  cases t with
  | inn => cases hp
  | one _ _ => cases hp
  | late _ _ => cases hp
  | thn _ _ => exact absurd rfl hw
  | keep t u =>
    obtain ⟨a, x, y, rfl, h, r⟩ := ta
    refine ⟨_, rfl, _, _, _, _, rfl, rfl, SqT.of h, rfl, rfl, _, rfl, iteTd (by decide +kernel) ?_⟩
    refine ⟨⟨_, rfl⟩, _, rfl, _, rfl, _, _, rfl, fun D hD => lc_it walk_zipS (fun i H' => Same H H' ∧ H' D = some (.lst ((keepL (fs.take i) (gs.take i)).map vs))) ⟨same_new hD _, upd_same⟩ (fun _ _ _ _ => trivial) ?_ ?_⟩
    · rintro i x H1 H2 hi ⟨sm, hd⟩ ⟨t, c, d, rfl, ht, rfl, hc, hd2⟩
      obtain ⟨x, hx, rfl⟩ := tx_char hc
      obtain ⟨y, hy, rfl⟩ := tx_char hd2
      have hil := lt_len hx
      have hDt : D ≠ t := fun z => by rw [z, ht] at hd; cases hd
      have hsn := keep_snoc fs gs i x y hx hy
      have hkl := keepL_len (fs.take i) (gs.take i)
      refine ⟨_, _, rfl, SqT.of upd_same, rfl, _, _, rfl, _, _, rfl, rfl, rfl, ?_⟩
      refine ⟨_, rfl, rfl, _, rfl, ?_⟩
      rw [show decide (V.str { cps := #[cd y] } = V.str (Str.ofString "1")) = y by cases y <;> decide +kernel]
      cases y with
      | false =>
        refine iteF ⟨sm.trans' (same_new ht _), ?_⟩
        rw [upd_ne hDt, hd, hsn]
        simp
      | true =>
        refine iteT ⟨_, rfl, _, (upd_ne hDt).trans hd, ?_, same_at (sm.trans' (same_new ht _)) hD, ?_⟩
        · rw [List.length_map]
          rw [List.length_take] at hkl
          exact Nat.lt_of_lt_of_le (show _ < 100000 by omega) (by decide)
        rw [upd_same, hsn]
        simp
        rfl
    · rintro H1 ⟨sm, hd⟩
      rw [hsz, keep_all] at hd
      have := keepL_len fs gs
      exact joinEnd hd (by omega) (q _ sm)
  | byy b1 b2 b3 b4 t u =>
    obtain ⟨a, x, y, rfl, h, r⟩ := ta
    refine ⟨_, rfl, _, _, _, _, rfl, rfl, SqT.of h, rfl, rfl, _, rfl, iteFd (by decide +kernel) ?_⟩
    refine ⟨⟨_, rfl⟩, _, rfl, _, rfl, _, _, rfl, fun D hD => lc_it walk_zipS (fun i H' => Same H H' ∧ H' D = some (.lst (((byL b1 b2 b3 b4 fs gs).take i).map vs))) ⟨same_new hD _, upd_same⟩ (fun _ _ _ _ => trivial) ?_ ?_⟩
    · rintro i x H1 H2 hi ⟨sm, hd⟩ ⟨t, c, d, rfl, ht, rfl, hc, hd2⟩
      obtain ⟨x, hx, rfl⟩ := tx_char hc
      obtain ⟨y, hy, rfl⟩ := tx_char hd2
      have hil := lt_len hx
      have hDt : D ≠ t := fun z => by rw [z, ht] at hd; cases hd
      have hg := by_get b1 b2 b3 b4 fs gs i x y hx hy
      refine ⟨_, _, rfl, SqT.of upd_same, rfl, _, _, rfl, _, _, rfl, rfl, rfl, tyI ?_⟩
      refine ⟨_, rfl, _, _, _, _, rfl, rfl, SqT.of ((sm.trans' (same_new ht _)) _ _ h), rfl, _, rfl, _, _, rfl, int_sgn x, sl640 _, _, _, rfl, rfl, .inl (by decide), _, rfl, _, _, rfl, int_sgn y, sl640 _, _, _, rfl, rfl, ?_⟩
      refine ⟨_, _, cd (if x then (if y then b4 else b3) else (if y then b2 else b1)), rfl, rfl, by rw [tx_len]; exact small5 (by simp), ?_, ?_⟩
      · rw [tx_toList]
        cases x <;> cases y <;> rfl
      refine ⟨_, (upd_ne hDt).trans hd, take_len_le _ _ _ (by omega), same_at (sm.trans' (same_new ht _)) hD, ?_⟩
      rw [upd_same, ← take_one _ hg]
      rfl
    · rintro H1 ⟨sm, hd⟩
      rw [hsz, List.take_of_length_le (by rw [by_len]; omega)] at hd
      exact joinEnd hd (by rw [by_len]; omega) (q _ sm)
end
end FY


set_option Elab.async false
set_option linter.all false
set_option maxRecDepth 100000
set_option maxHeartbeats 4000000
namespace FY
open PySem L2 FYR
def spFlowBy (n : Nat) : Sp := fun vs H Q _ => ∃ v t bs, vs = [v, .str (tx bs)] ∧ TA H v t ∧ t.nodes ≤ n ∧ t.nodes ≤ 9 ∧ 2 ^ (t.nodes - 1) * bs.length ≤ 8000 ∧ ∀ H', Same H H' → Q (.str (tx (flow t bs))) H'
def spFlowOf : Sp := fun vs H Q _ => ∃ v t bs, vs = [v, .str (tx bs)] ∧ TA H v t ∧ t.nodes ≤ 9 ∧ bs.length ≤ 1000 ∧ 2 ^ (t.nodes - 1) * bs.length ≤ 8000 ∧ ∀ H', Same H H' → Q (.str (tx (flow t bs))) H'
theorem pow_le {a b n : Nat} (h : a ≤ b) (hb : 2 ^ b * n ≤ 8000) : 2 ^ a * n ≤ 8000 := Nat.le_trans (Nat.mul_le_mul_right n (Nat.pow_le_pow_right (by decide) h)) hb
theorem thn_le {t u : Tm} {bs : List Bool} (hb : 2 ^ (t.nodes + u.nodes + 1 - 1) * bs.length ≤ 8000) : 2 ^ (u.nodes - 1) * (flow t bs).length ≤ 8000 := by
  have h1 := flow_len t bs
  have h3 := t.nodes_pos
  have h4 := u.nodes_pos
  have e1 := Nat.mul_le_mul_left (2 ^ (u.nodes - 1)) h1
  rw [← Nat.mul_assoc, ← Nat.pow_add] at e1
  exact Nat.le_trans e1 (pow_le (by omega) hb)
theorem flow_8000 {t : Tm} {bs : List Bool} (hb : 2 ^ (t.nodes - 1) * bs.length ≤ 8000) : (flow t bs).length ≤ 8000 := Nat.le_trans (flow_len t bs) hb
theorem flow_op1 (t : Tm) (bs : List Bool) (u : Tm) (h : t.parts = [u]) : flow t bs = op1 t (flow u bs) := by
  cases t <;> simp [Tm.parts] at h <;> subst h <;> rfl
theorem flow_op2 (t : Tm) (bs : List Bool) (u v : Tm) (h : t.parts = [u, v]) (hw : t.word ≠ "then") : flow t bs = op2 t (flow u bs) (flow v bs) := by
  cases t <;> simp [Tm.parts] at h
  · obtain ⟨rfl, rfl⟩ := h; rfl
  · obtain ⟨rfl, rfl⟩ := h; rfl
  · exact absurd rfl hw
theorem parts_two (t : Tm) (h : t.isIn = false) : (∃ u, t.parts = [u]) ∨ ∃ u v, t.parts = [u, v] := by
  cases t with
  | inn => cases h
  | one _ _ => exact .inl ⟨_, rfl⟩
  | late _ _ => exact .inl ⟨_, rfl⟩
  | _ => exact .inr ⟨_, _, rfl⟩
theorem parts_nodes {t u : Tm} (h : u ∈ t.parts) : u.nodes + 1 ≤ t.nodes := by
  have := sumN_parts t
  have := sumN_mem _ _ h
  omega
theorem paired_get {α β : Type} {R : α → β → Prop} {a : List α} {b : List β} (h : Paired R a b) {i : Nat} {x : α} (hx : a[i]? = some x) : ∃ y, b[i]? = some y ∧ R x y := by
  induction h generalizing i with
  | nil => simp at hx
  | cons r q ih =>
    cases i with
    | zero => simp at hx; subst hx; exact ⟨_, rfl, r⟩
    | succ i => exact ih hx
def Tm.isThn : Tm → Bool | .thn _ _ => true | _ => false
theorem word_then (t : Tm) : decide (V.str t.word = V.str "then") = t.isThn := by
  cases t with
  | one w t => 
    cases w with
    | no => exact (by decide +kernel : decide (V.str ("not" : Str) = V.str ("then" : Str)) = false)
    | twice => exact (by decide +kernel : decide (V.str ("twice" : Str) = V.str ("then" : Str)) = false)
    | half => exact (by decide +kernel : decide (V.str ("half" : Str) = V.str ("then" : Str)) = false)
    | change => exact (by decide +kernel : decide (V.str ("change" : Str) = V.str ("then" : Str)) = false)
    | count => exact (by decide +kernel : decide (V.str ("count" : Str) = V.str ("then" : Str)) = false)
  | inn => exact (by decide +kernel : decide (V.str ("in" : Str) = V.str ("then" : Str)) = false)
  | late _ _ => exact (by decide +kernel : decide (V.str ("late" : Str) = V.str ("then" : Str)) = false)
  | byy _ _ _ _ _ _ => exact (by decide +kernel : decide (V.str ("by" : Str) = V.str ("then" : Str)) = false)
  | keep _ _ => exact (by decide +kernel : decide (V.str ("keep" : Str) = V.str ("then" : Str)) = false)
  | thn _ _ => exact (by decide +kernel : decide (V.str ("then" : Str) = V.str ("then" : Str)) = true)
theorem at0 {α : Type} {x : α} {xs : List α} : atI (x :: xs) 0 = some x := by
  unfold atI ixN
  simp
section
variable {P : Program} {w : World} {K : PySem.W.Frag} {mg : Str → Option Value} {base : Heap} {aS a1 a2 : Addr} {f : Addr} {fd : FuncData}
abbrev s_flow_by : Stmt := top 96
abbrev N_flow_by : List Str := ["term", "stream", "found", "flows", "part"]
theorem sc_flow_by : FnScope N_flow_by ["term", "stream"] (defScope s_flow_by) := ⟨rfl, rfl, rfl, by decide +kernel, rfl, by decide +kernel, by decide +kernel⟩
theorem step_flow_by {n : Nat} (F : Fun K "flow_by" "flow_by" s_flow_by f fd) (T : Txt K mg aS a1 a2) (c_parts_of : C8.Cal P w K mg base 1 "parts_of" spPartsOf []) (c_of_one : C8.Cal P w K mg base 2 "of_one" spOfOne []) (c_of_two : C8.Cal P w K mg base 1 "of_two" spOfTwo []) (c_flow_by : C8.Cal P w K mg base (n + 3) "flow_by" (spFlowBy n) []) : FnOk P w K mg base CX0 (n + 4) f fd ["term", "stream"] (spFlowBy (n + 1)) := by
  refine F.ok sc_flow_by (fun vs H Q E h => ?_) (fun cdv A outer s H vs Q E hr h => ?_)
  · obtain ⟨b, t, bs, rfl, _⟩ := h
    rfl
  obtain ⟨v, t, bs, rfl, ta, hn, h9, hb, q⟩ := h
  refine ⟨_, (pss_cons (ps_if (pt_cmpR (kEqD K rfl hr.units) (pv 0) (C8.pe_gc rfl T.g_IN) (nomark _))
        (pss_one (ps_ret (pv 1)))
        pss_nil)
        (pss_cons (ps_if (pt_cmpR op_eq (pe_ix (kIxT K rfl) (pv 0) pe_int (fun _ _ => rfl)) (C8.pe_gc rfl T.g_THEN) (nomark _))
        (pss_one (ps_set (i := 2) sc_flow_by.nd rfl (Or.inl rfl) (C8.pe_c c_flow_by hr (by omega) rfl (pa_cons (pe_ix (kIxT K rfl) (pv 0) pe_int (fun _ _ => rfl)) (pa_cons (C8.pe_c c_flow_by hr (by omega) rfl (pa_cons (pe_ix (kIxT K rfl) (pv 0) pe_int (fun _ _ => rfl)) (pa_cons (pv 1) pa_nil))) pa_nil)))))
        (pss_cons (ps_setLc (i := 3) (own := [("part", 4)]) rfl sc_flow_by.nd rfl rfl (sw_true rfl rfl rfl (by decide +kernel)) (kTup K rfl (C8.pe_c c_parts_of hr (by omega) rfl (pa_cons (pv 0) pa_nil))) (blkOk_by (N := N_flow_by) (sc := defScope s_flow_by) (by decide +kernel)) (fun _ _ _ _ _ => (pg_name (i := 4) sc_flow_by.nd rfl (Or.inl rfl))) (fun _ _ _ _ _ => pts_nil) (fun _ _ _ _ _ => (C8.pe_c c_flow_by hr (by omega) rfl (pa_cons (pv 4) (pa_cons (pv 1) pa_nil)))))
        (pss_one (ps_set (i := 2) sc_flow_by.nd rfl (Or.inl rfl) (pe_ifExp (pt_cmpR op_eq (pe_callB (kLen K rfl) rfl T.b_len bt_len (pa_cons (pv 3) pa_nil)) pe_int (nomark _)) (C8.pe_c c_of_one hr (by omega) rfl (pa_cons (pv 0) (pa_cons (pe_ix (kIxL K rfl) (pv 3) pe_int (fun _ _ => rfl)) pa_nil))) (C8.pe_c c_of_two hr (by omega) rfl (pa_cons (pv 0) (pa_cons (pe_ix (kIxL K rfl) (pv 3) pe_int (fun _ _ => rfl)) (pa_cons (pe_ix (kIxL K rfl) (pv 3) pe_int (fun _ _ => rfl)) pa_nil)))))))))
        (pss_cons (ps_if (pt_cmpR op_gt (pe_callB call_len_str rfl T.b_len bt_len (pa_cons (pv 2) pa_nil)) (C8.pe_gc rfl T.g_MOST_SIGNS) (nomark _))
        (pss_one ps_never)
        pss_nil)
        (pss_one (ps_ret (pv 2)))))), ?_⟩
  refine ⟨_, rfl, _, _, ta.dp, .str _, shp_tm (by omega), shp_in, _, rfl, ?_⟩
  rw [eqv_in]
  have h8 := flow_8000 hb
  have hs5 : (tx (flow t bs)).length ≤ sizeLine := by rw [tx_len]; exact small5 (by omega)
  cases hin : t.isIn with
  | true =>
    have e : t = .inn := by cases t <;> first | rfl | cases hin
    subst e
    exact iteT ⟨_, rfl, q _ (Same.refl _)⟩
  | false =>
    refine iteF ?_
    obtain ⟨a, us, rfl, ha, hpa⟩ := ta.node hin
    refine ⟨_, rfl, _, _, _, _, rfl, rfl, SqT.of ha, at0, rfl, _, rfl, ?_⟩
    rw [word_then]
    cases hth : t.isThn with
    | true =>
      refine iteT ?_
      cases t with
      | thn t u =>
        cases hpa with
        | @cons x1 _ _ _ r1 q1 =>
        cases q1 with
        | @cons x2 _ _ _ r2 q2 =>
        cases q2 with
        | nil =>
        have hnd : (Tm.thn t u).nodes = t.nodes + u.nodes + 1 := rfl
        have h8 : (flow u (flow t bs)).length ≤ 8000 := h8
        have hnn : t.nodes + u.nodes + 1 ≤ 9 := h9
        have hnn' : t.nodes + u.nodes + 1 ≤ n + 1 := hn
        have := t.nodes_pos
        have := u.nodes_pos
        refine ⟨_, rfl, _, _, _, _, rfl, rfl, SqT.of ha, rfl, _, rfl, _, _, _, _, rfl, rfl, SqT.of ha, rfl, _, rfl, _, t, bs, rfl, r1, by omega, by omega, pow_le (by omega) hb, fun H1 s1 => ?_⟩
        refine ⟨_, u, flow t bs, rfl, r2.keep (Tups.of s1), by omega, by omega, thn_le hb, fun H2 s2 => ?_⟩
        exact ⟨_, rfl, _, rfl, hs5, _, _, rfl, rfl, _, rfl, iteFd (by rw [tx_len]; simp; omega) ⟨_, rfl, q _ (s1.trans' s2)⟩⟩
      | _ => cases hth
    | false =>
      have hw : t.word ≠ "then" := by
        intro z
        have y := word_then t
        rw [z, hth] at y
        simp at y
      refine iteF ?_
      refine ⟨_, rfl, _, t, rfl, ta, Nat.le_trans t.dep_le (by omega), fun H1 p ws s1 hp1 pr1 => ?_⟩
      have hwl := paired_len pr1
      refine ⟨_, rfl, ⟨_, SqT.of hp1⟩, fun D hD => lc_it walk_tup (fun i H' => Same H1 H' ∧ H' D = some (.lst ((t.parts.take i).map fun u => V.str (tx (flow u bs))))) ⟨same_new hD _, upd_same⟩ (fun i H' _ z => SqT.of (z.1 _ _ hp1)) ?_ ?_⟩
      · rintro i x H2 H3 hi ⟨sm, hd⟩ ⟨rfl, hx⟩
        obtain ⟨u, hu, hxu⟩ := paired_get pr1 hx
        have hum := List.mem_of_getElem? hu
        have hun := parts_nodes hum
        refine ⟨rfl, tyI ⟨_, rfl, _, rfl, _, u, bs, rfl, hxu.keep (Tups.of sm), by omega, by omega, pow_le (by omega) hb, fun H4 s4 => ?_⟩⟩
        have hil := lt_len hu
        have := sumN_len t.parts
        have := sumN_parts t
        refine ⟨_, s4 _ _ hd, take_len_le _ _ _ (by omega), same_at (sm.trans' s4) hD, ?_⟩
        rw [upd_same, ← take_one _ hu]
      · rintro H2 ⟨sm, hd⟩
        rw [hwl, List.take_of_length_le (Nat.le_refl _)] at hd
        have tk := (ta.keep (Tups.of (s1.trans' sm)))
        refine ⟨_, rfl, _, _, rfl, .inl (SqL.of hd), rfl, _, rfl, ?_⟩
        rcases parts_two t hin with ⟨u, hu⟩ | ⟨u, u', hu⟩
        · have hun := parts_nodes (show u ∈ t.parts by rw [hu]; simp)
          have hu8 : (flow u bs).length ≤ 8000 := flow_8000 (pow_le (by omega) hb)
          rw [hu] at hd ⊢
          refine iteTd (by rw [dec_int]; rfl) ?_
          refine ⟨_, rfl, _, rfl, _, _, _, _, rfl, rfl, SqL.of hd, rfl, _, t, flow u bs, rfl, tk, by rw [hu]; rfl, by omega, fun H3 s3 => ?_⟩
          rw [← flow_op1 t bs u hu]
          exact ⟨_, rfl, _, rfl, hs5, _, _, rfl, rfl, _, rfl, iteFd (by rw [tx_len]; simp; omega) ⟨_, rfl, q _ ((s1.trans' sm).trans' s3)⟩⟩
        · have hun := parts_nodes (show u ∈ t.parts by rw [hu]; simp)
          have hu8 : (flow u bs).length ≤ 8000 := flow_8000 (pow_le (by omega) hb)
          rw [hu] at hd ⊢
          refine iteFd (by rw [dec_int]; rfl) ?_
          refine ⟨_, rfl, _, rfl, _, _, _, _, rfl, rfl, SqL.of hd, rfl, _, rfl, _, _, _, _, rfl, rfl, SqL.of hd, rfl, _, t, flow u bs, flow u' bs, rfl, tk, by rw [hu]; rfl, hw, by omega, fun H3 s3 => ?_⟩
          rw [← flow_op2 t bs u u' hu hw]
          exact ⟨_, rfl, _, rfl, hs5, _, _, rfl, rfl, _, rfl, iteFd (by rw [tx_len]; simp; omega) ⟨_, rfl, q _ ((s1.trans' sm).trans' s3)⟩⟩
theorem ok_flow_by (F : Fun K "flow_by" "flow_by" s_flow_by f fd) (T : Txt K mg aS a1 a2) (hm : mg "flow_by" = some (.ref f)) (hk : PySem.W.keepIn K (.ref f) = true) (hb : Binds K fd ["term", "stream"] []) (c_parts_of : C8.Cal P w K mg base 1 "parts_of" spPartsOf []) (c_of_one : C8.Cal P w K mg base 2 "of_one" spOfOne []) (c_of_two : C8.Cal P w K mg base 1 "of_two" spOfTwo []) : ∀ n, C8.Cal P w K mg base (n + 3) "flow_by" (spFlowBy n) []
  | 0 => ⟨f, fd, _, [], ⟨by rintro vs H Q E ⟨b, t, bs, rfl, _⟩; rfl, by
      rintro A outer s H args us vs Q E hr e0 hb r ⟨b, t, bs, rfl, _, hn, _⟩
      have := t.nodes_pos
      omega⟩, hm, hk, hb, .nil⟩
  | n + 1 => ⟨f, fd, _, [], step_flow_by F T c_parts_of c_of_one c_of_two (ok_flow_by F T hm hk hb c_parts_of c_of_one c_of_two n), hm, hk, hb, .nil⟩
abbrev s_flow_of : Stmt := top 97
abbrev N_flow_of : List Str := ["term", "stream"]
theorem sc_flow_of : FnScope N_flow_of ["term", "stream"] (defScope s_flow_of) := ⟨rfl, rfl, rfl, by decide +kernel, rfl, by decide +kernel, by decide +kernel⟩
theorem ok_flow_of (F : Fun K "flow_of" "flow_of" s_flow_of f fd) (T : Txt K mg aS a1 a2) (c_want_term : C8.Cal P w K mg base 4 "want_term" spWantTerm []) (c_want_stream : C8.Cal P w K mg base 3 "want_stream" spWantStream []) (c_flow_by : C8.Cal P w K mg base 12 "flow_by" (spFlowBy 9) []) : FnOk P w K mg base CX0 13 f fd ["term", "stream"] spFlowOf := by
  refine F.ok sc_flow_of (fun vs H Q E h => ?_) (fun cdv A outer s H vs Q E hr h => ?_)
  · obtain ⟨b, t, bs, rfl, _⟩ := h
    rfl
  obtain ⟨v, t, bs, rfl, ta, h9, hl, hb, q⟩ := h
  refine ⟨_, (pss_cons (ps_expr (C8.pe_c c_want_term hr (by decide) rfl (pa_cons (pv 0) pa_nil)))
        (pss_cons (ps_expr (C8.pe_c c_want_stream hr (by decide) rfl (pa_cons (pv 1) pa_nil)))
        (pss_one (ps_ret (C8.pe_c c_flow_by hr (by decide) rfl (pa_cons (pv 0) (pa_cons (pv 1) pa_nil))))))), ?_⟩
  refine ⟨_, rfl, _, t, rfl, ta, h9, fun H1 s1 => ⟨_, rfl, bs, rfl, hl, fun H2 s2 => ?_⟩⟩
  exact ⟨_, rfl, _, rfl, _, t, bs, rfl, ta.keep (Tups.of (s1.trans' s2)), h9, h9, hb, fun H3 s3 => q _ ((s1.trans' s2).trans' s3)⟩
end
end FY


set_option Elab.async false
set_option linter.all false
set_option maxRecDepth 100000
set_option maxHeartbeats 4000000
namespace FY
open PySem L2 FYR
theorem hu1 {k : Nat} {A : Around} (r : Room k A) : A.units + 1 < cLine := by have := r.units; omega
theorem sg_ne' (x y : Bool) : (!decide (V.str ⟨#[cd x]⟩ = V.str (sgn y))) = (x != y) := sg_ne x y
theorem upd_upd {H : Hp} {p : Addr} {o o' : HO} : upd (upd H p o) p o' = upd H p o' := by
  funext b
  by_cases h : b = p
  · rw [h, upd_same, upd_same]
  · rw [upd_ne h, upd_ne h, upd_ne h]
section
variable {P : Program} {w : World} {K : PySem.W.Frag} {mg : Str → Option Value} {base : Heap} {aS a1 a2 : Addr} {f : Addr} {fd : FuncData}
abbrev s_law_single : Stmt := top 114
abbrev N_law_single : List Str := ["_law_term_here", "_law_flow_here", "_law_found", "_law_last", "_law_sign", "_law_told"]
theorem sc_law_single : FnScope N_law_single ["_law_term_here", "_law_flow_here"] (defScope s_law_single) := ⟨rfl, rfl, rfl, by decide +kernel, rfl, by decide +kernel, by decide +kernel⟩
theorem ok_law_single (F : Fun K "_law_single" "_law_single" s_law_single f fd) (T : Txt K mg aS a1 a2) : FnOk P w K mg base CX0 1 f fd ["_law_term_here", "_law_flow_here"] spOfOne := by
  refine F.ok sc_law_single (fun vs H Q E h => ?_) (fun cdv A outer s H vs Q E hr h => ?_)
  · obtain ⟨b, t, bs, rfl, _⟩ := h
    rfl
  obtain ⟨v, t, bs, rfl, ta, hp, hl, q⟩ := h
  refine ⟨_, (pss_cons (ps_if (pt_cmpR op_eq (pe_ix (kIxT K rfl) (pv 0) pe_int (fun _ _ => rfl)) pe_str (nomark _))
        (pss_one (ps_ret (kJoin K rfl pe_str (pe_lc (own := [("_law_sign", 4)]) rfl sc_law_single.nd (pi_str (pv 1)) (blkOk_by (N := N_law_single) (sc := defScope s_law_single) (by decide +kernel)) (fun _ _ _ _ _ => (pg_name (i := 4) sc_law_single.nd rfl (Or.inl rfl))) (fun _ _ _ _ _ => pts_nil) (fun _ _ _ _ _ => (pe_dget (hu1 hr) (pe_disp (pps_cons pe_str pe_str (pps_cons pe_str pe_str pps_nil)) rfl rfl (by decide) (by decide)) (pv 4) (fun _ _ => rfl)))))))
        pss_nil)
        (pss_cons (ps_if (pt_cmpR op_eq (pe_ix (kIxT K rfl) (pv 0) pe_int (fun _ _ => rfl)) pe_str (nomark _))
        (pss_one (ps_ret (pe_slice sl_str (pe_op op_add_str (pe_ix (kIxT K rfl) (pv 0) pe_int (fun _ _ => rfl)) (pv 1)) po_none (po_some (pe_callB call_len_str rfl T.b_len bt_len (pa_cons (pv 1) pa_nil))))))
        pss_nil)
        (pss_cons (ps_if (pt_cmpR op_eq (pe_ix (kIxT K rfl) (pv 0) pe_int (fun _ _ => rfl)) pe_str (nomark _))
        (pss_one (ps_ret (kJoin K rfl pe_str (pe_lc (own := [("_law_sign", 4)]) rfl sc_law_single.nd (pi_str (pv 1)) (blkOk_by (N := N_law_single) (sc := defScope s_law_single) (by decide +kernel)) (fun _ _ _ _ _ => (pg_name (i := 4) sc_law_single.nd rfl (Or.inl rfl))) (fun _ _ _ _ _ => pts_nil) (fun _ _ _ _ _ => (pe_op op_add_str (pv 4) (pv 4)))))))
        pss_nil)
        (pss_cons (ps_if (pt_cmpR op_eq (pe_ix (kIxT K rfl) (pv 0) pe_int (fun _ _ => rfl)) pe_str (nomark _))
        (pss_one (ps_ret (pe_stepS (pv 1) (po_some pe_int) po_none (po_some pe_int))))
        pss_nil)
        (pss_cons (ps_par (i := 2) (j := 3) rfl sc_law_single.nd rfl rfl (by decide) rfl rfl (pa_cons (pe_lst pa_nil) (pa_cons pe_str pa_nil)) rfl)
        (pss_cons (ps_for PassesOwn.never rfl (pi_str (pv 1)) (pg_name (i := 4) sc_law_single.nd rfl (Or.inl rfl))
        (pss_cons (ps_set (i := 5) sc_law_single.nd rfl (Or.inl rfl) (pe_ifExp (pt_cmpR op_ne (pv 4) (pv 3) (nomark _)) pe_str pe_str))
        (pss_cons (ps_expr (kBm K rfl PySem.F.plainAttrs_list PySem.F.slot_list_append PySem.F.type_list_append mt_append (pv 2) (pa_cons (pv 5) pa_nil)))
        (pss_one (ps_set (i := 3) sc_law_single.nd rfl (Or.inl rfl) (pe_ifExp (pt_cmpR op_eq (pe_ix (kIxT K rfl) (pv 0) pe_int (fun _ _ => rfl)) pe_str (nomark _)) (pv 4) (pv 5)))))))
        (pss_one (ps_ret (kJoin K rfl pe_str (pv 2)))))))))), ?_⟩
  cases t with
  | inn => cases hp
  | byy _ _ _ _ _ _ => cases hp
  | keep _ _ => cases hp
  | thn _ _ => cases hp
  | late b t =>
    obtain ⟨a, x, rfl, h, r⟩ := ta
    refine ⟨_, rfl, _, _, _, _, rfl, rfl, SqT.of h, rfl, rfl, _, rfl, iteFd (by decide +kernel) ?_⟩
    refine ⟨_, rfl, _, _, _, _, rfl, rfl, SqT.of h, rfl, rfl, _, rfl, iteTd (by decide +kernel) ?_⟩
    refine ⟨_, rfl, _, _, _, _, rfl, rfl, SqT.of h, rfl, _, rfl, _, _, rfl, rfl, ?_, _, rfl, _, rfl, by rw [tx_len]; exact small5 (by omega), _, rfl, _, rfl, ?_, ?_⟩
    · rw [tx_len]; exact small5 (show 1 + bs.length ≤ 100000 by omega)
    · rw [sgn_tx, tx_app, tx_len]; exact small5 (by simp; omega)
    rw [sgn_tx, tx_app, tx_len, cut_to]
    exact q _ (Same.refl _)
  | one w t =>
    obtain ⟨a, x, rfl, h, r⟩ := ta
    cases w with
    | no =>
      refine ⟨_, rfl, _, _, _, _, rfl, rfl, SqT.of h, rfl, rfl, _, rfl, iteTd (by decide +kernel) ?_⟩
      refine ⟨⟨_, rfl⟩, _, rfl, _, rfl, fun D hD => lc_it walk_str (fun i H' => Same H H' ∧ H' D = some (.lst (((bs.map (!·)).take i).map vs))) ⟨same_new hD _, upd_same⟩ (fun _ _ _ _ => trivial) ?_ ?_⟩
      · rintro i x H1 H2 hi ⟨sm, hd⟩ ⟨rfl, c, hc, rfl⟩
        obtain ⟨x, hx, rfl⟩ := tx_char hc
        have hil := lt_len hx
        refine ⟨rfl, tyI fun p hp0 => ⟨upd_same, [(.inr "0", .str "1"), (.inr "1", .str "0")], rfl, by decide, _, rfl, _, .str (sgn (!x)), rfl, .inl ⟨_, .inr (sgn x), .inl upd_same, rfl, ?_⟩, ?_⟩⟩
        · cases x <;> decide +kernel
        have hDp : D ≠ p := fun z => by rw [z, hp0] at hd; cases hd
        rw [upd_upd]
        refine ⟨_, (upd_ne hDp).trans hd, take_len_le _ _ _ (by omega), same_at (sm.trans' (same_new hp0 _)) hD, ?_⟩
        rw [upd_same, ← take_one _ (show (bs.map (!·))[i]? = some (!x) by simp [hx])]
      · rintro H1 ⟨sm, hd⟩
        rw [tx_size, List.take_of_length_le (by simp)] at hd
        exact joinEnd hd (by simp; omega) (q _ sm)
    | twice =>
      refine ⟨_, rfl, _, _, _, _, rfl, rfl, SqT.of h, rfl, rfl, _, rfl, iteFd (by decide +kernel) ?_⟩
      refine ⟨_, rfl, _, _, _, _, rfl, rfl, SqT.of h, rfl, rfl, _, rfl, iteFd (by decide +kernel) ?_⟩
      refine ⟨_, rfl, _, _, _, _, rfl, rfl, SqT.of h, rfl, rfl, _, rfl, iteTd (by decide +kernel) ?_⟩
      refine ⟨⟨_, rfl⟩, _, rfl, _, rfl, fun D hD => lc_it walk_str (fun i H' => Same H H' ∧ H' D = some (.lst (((bs.map fun b => [b, b]).take i).map fun y => V.str (tx y)))) ⟨same_new hD _, upd_same⟩ (fun _ _ _ _ => trivial) ?_ ?_⟩
      · rintro i x H1 H2 hi ⟨sm, hd⟩ ⟨rfl, c, hc, rfl⟩
        obtain ⟨x, hx, rfl⟩ := tx_char hc
        have hil := lt_len hx
        refine ⟨rfl, tyI ⟨_, rfl, _, rfl, _, _, rfl, rfl, ?_, _, hd, take_len_le _ _ _ (by omega), same_at sm hD, ?_⟩⟩
        · exact small5 (show 1 + 1 ≤ 100000 by decide)
        rw [upd_same, ← take_one _ (show (bs.map fun b => [b, b])[i]? = some [x, x] by simp [hx])]
        rw [show (({ cps := #[cd x] } : Str) ++ ({ cps := #[cd x] } : Str)) = tx [x, x] from tx_app [x] [x]]
      · rintro H1 ⟨sm, hd⟩
        rw [tx_size, List.take_of_length_le (by simp)] at hd
        refine joinEndL hd (by rw [flat_dbl, dblL_len]; omega) ?_
        rw [flat_dbl]
        exact q _ sm
    | half =>
      refine ⟨_, rfl, _, _, _, _, rfl, rfl, SqT.of h, rfl, rfl, _, rfl, iteFd (by decide +kernel) ?_⟩
      refine ⟨_, rfl, _, _, _, _, rfl, rfl, SqT.of h, rfl, rfl, _, rfl, iteFd (by decide +kernel) ?_⟩
      refine ⟨_, rfl, _, _, _, _, rfl, rfl, SqT.of h, rfl, rfl, _, rfl, iteFd (by decide +kernel) ?_⟩
      refine ⟨_, rfl, _, _, _, _, rfl, rfl, SqT.of h, rfl, rfl, _, rfl, iteTd (by decide +kernel) ?_⟩
      refine ⟨_, rfl, _, rfl, _, rfl, _, _, rfl, rfl, by decide, by rw [tx_len]; exact small5 (by omega), ?_⟩
      rw [step_tx]
      exact q _ (Same.refl _)
    | change =>
      refine ⟨_, rfl, _, _, _, _, rfl, rfl, SqT.of h, rfl, rfl, _, rfl, iteFd (by decide +kernel) ?_⟩
      refine ⟨_, rfl, _, _, _, _, rfl, rfl, SqT.of h, rfl, rfl, _, rfl, iteFd (by decide +kernel) ?_⟩
      refine ⟨_, rfl, _, _, _, _, rfl, rfl, SqT.of h, rfl, rfl, _, rfl, iteFd (by decide +kernel) ?_⟩
      refine ⟨_, rfl, _, _, _, _, rfl, rfl, SqT.of h, rfl, rfl, _, rfl, iteFd (by decide +kernel) ?_⟩
      refine ⟨Nat.zero_le _, fun L hL => ⟨_, _, rfl, _, rfl, _, rfl, for_it walk_str (fun i σ H' => ∃ (y : Bool) (z z' : Option V), σ = [some (.ref a), some (.str (tx bs)), some (.ref L), some (.str (sgn y)), z, z'] ∧ (false :: bs)[i]? = some y ∧ H' L = some (.lst (((chgL false bs).take i).map vs)) ∧ Same H H') ⟨false, _, _, by rw [← s0]; rfl, rfl, upd_same, same_new hL _⟩ (fun _ _ _ _ _ => trivial) ?_ ?_⟩⟩
      · rintro i x σ H1 H2 hi ⟨y, z, z', rfl, hy, hd, sm⟩ ⟨rfl, c, hc, rfl⟩
        obtain ⟨x, hx, rfl⟩ := tx_char hc
        have hg := chg_get bs false i x y hx hy
        have hil := lt_len hx
        have h2 := sm _ _ h
        refine ⟨_, rfl, _, rfl, rfl, _, rfl, ?_⟩
        rw [sg_ne']
        cases hxy : (x != y) with
        | true =>
          rw [hxy] at hg
          refine iteT ?_
          rw [s1]
          refine ⟨_, rfl, .inl ⟨rfl, _, SqL.of hd⟩, _, rfl, _, _, _, rfl, rfl, hd, take_len_le _ _ _ (by omega), ?_⟩
          refine ⟨_, rfl, _, _, _, _, rfl, rfl, SqT.of (same_at sm hL _ _ h), rfl, rfl, _, rfl, iteTd (by decide +kernel) ⟨_, rfl, ?_⟩⟩
          refine ⟨x, _, _, rfl, by rw [List.getElem?_cons_succ]; exact hx, ?_, same_at sm hL⟩
          rw [upd_same, ← take_one _ hg]
        | false =>
          rw [hxy] at hg
          refine iteF ?_
          rw [s0]
          refine ⟨_, rfl, .inl ⟨rfl, _, SqL.of hd⟩, _, rfl, _, _, _, rfl, rfl, hd, take_len_le _ _ _ (by omega), ?_⟩
          refine ⟨_, rfl, _, _, _, _, rfl, rfl, SqT.of (same_at sm hL _ _ h), rfl, rfl, _, rfl, iteTd (by decide +kernel) ⟨_, rfl, ?_⟩⟩
          refine ⟨x, _, _, rfl, by rw [List.getElem?_cons_succ]; exact hx, ?_, same_at sm hL⟩
          rw [upd_same, ← take_one _ hg]
      · rintro σ H1 ⟨y, z, z', rfl, hy, hd, sm⟩
        rw [tx_size, List.take_of_length_le (by rw [chgL_len]; omega)] at hd
        refine ⟨⟨_, rfl⟩, _, rfl, ?_⟩
        exact joinEnd hd (by rw [chgL_len]; omega) (q _ sm)
    | count =>
      refine ⟨_, rfl, _, _, _, _, rfl, rfl, SqT.of h, rfl, rfl, _, rfl, iteFd (by decide +kernel) ?_⟩
      refine ⟨_, rfl, _, _, _, _, rfl, rfl, SqT.of h, rfl, rfl, _, rfl, iteFd (by decide +kernel) ?_⟩
      refine ⟨_, rfl, _, _, _, _, rfl, rfl, SqT.of h, rfl, rfl, _, rfl, iteFd (by decide +kernel) ?_⟩
      refine ⟨_, rfl, _, _, _, _, rfl, rfl, SqT.of h, rfl, rfl, _, rfl, iteFd (by decide +kernel) ?_⟩
      refine ⟨Nat.zero_le _, fun L hL => ⟨_, _, rfl, _, rfl, _, rfl, for_it walk_str (fun i σ H' => ∃ (y : Bool) (z z' : Option V), σ = [some (.ref a), some (.str (tx bs)), some (.ref L), some (.str (sgn y)), z, z'] ∧ (false :: cntL false bs)[i]? = some y ∧ H' L = some (.lst (((cntL false bs).take i).map vs)) ∧ Same H H') ⟨false, _, _, by rw [← s0]; rfl, rfl, upd_same, same_new hL _⟩ (fun _ _ _ _ _ => trivial) ?_ ?_⟩⟩
      · rintro i x σ H1 H2 hi ⟨y, z, z', rfl, hy, hd, sm⟩ ⟨rfl, c, hc, rfl⟩
        obtain ⟨x, hx, rfl⟩ := tx_char hc
        have hg := cnt_get bs false i x y hx hy
        have hil := lt_len hx
        have h2 := sm _ _ h
        refine ⟨_, rfl, _, rfl, rfl, _, rfl, ?_⟩
        rw [sg_ne']
        cases hxy : (x != y) with
        | true =>
          rw [hxy] at hg
          refine iteT ?_
          rw [s1]
          refine ⟨_, rfl, .inl ⟨rfl, _, SqL.of hd⟩, _, rfl, _, _, _, rfl, rfl, hd, take_len_le _ _ _ (by omega), ?_⟩
          refine ⟨_, rfl, _, _, _, _, rfl, rfl, SqT.of (same_at sm hL _ _ h), rfl, rfl, _, rfl, iteFd (by decide +kernel) ⟨_, rfl, ?_⟩⟩
          refine ⟨true, _, _, rfl, by rw [List.getElem?_cons_succ]; exact hg, ?_, same_at sm hL⟩
          rw [upd_same, ← take_one _ hg]
        | false =>
          rw [hxy] at hg
          refine iteF ?_
          rw [s0]
          refine ⟨_, rfl, .inl ⟨rfl, _, SqL.of hd⟩, _, rfl, _, _, _, rfl, rfl, hd, take_len_le _ _ _ (by omega), ?_⟩
          refine ⟨_, rfl, _, _, _, _, rfl, rfl, SqT.of (same_at sm hL _ _ h), rfl, rfl, _, rfl, iteFd (by decide +kernel) ⟨_, rfl, ?_⟩⟩
          refine ⟨false, _, _, rfl, by rw [List.getElem?_cons_succ]; exact hg, ?_, same_at sm hL⟩
          rw [upd_same, ← take_one _ hg]
      · rintro σ H1 ⟨y, z, z', rfl, hy, hd, sm⟩
        rw [tx_size, List.take_of_length_le (by rw [cntL_len]; omega)] at hd
        refine ⟨⟨_, rfl⟩, _, rfl, ?_⟩
        exact joinEnd hd (by rw [cntL_len]; omega) (q _ sm)
end
end FY


set_option Elab.async false
set_option linter.all false
set_option maxRecDepth 100000
set_option maxHeartbeats 4000000
namespace FY
open PySem L2 FYR
def spFlowL (n : Nat) : Sp := fun vs H Q _ => ∃ v t bs, vs = [v, .str (tx bs)] ∧ TA H v t ∧ t.nodes ≤ n ∧ t.nodes ≤ 40 ∧ 2 ^ (t.nodes - 1) * bs.length ≤ 40000 ∧ ∀ H', Same H H' → Q (.str (tx (flow t bs))) H'
theorem powL {a b n : Nat} (h : a ≤ b) (hb : 2 ^ b * n ≤ 40000) : 2 ^ a * n ≤ 40000 := Nat.le_trans (Nat.mul_le_mul_right n (Nat.pow_le_pow_right (by decide) h)) hb
theorem thnL {t u : Tm} {bs : List Bool} (hb : 2 ^ (t.nodes + u.nodes + 1 - 1) * bs.length ≤ 40000) : 2 ^ (u.nodes - 1) * (flow t bs).length ≤ 40000 := by
  have h1 := flow_len t bs
  have h3 := t.nodes_pos
  have h4 := u.nodes_pos
  have e1 := Nat.mul_le_mul_left (2 ^ (u.nodes - 1)) h1
  rw [← Nat.mul_assoc, ← Nat.pow_add] at e1
  exact Nat.le_trans e1 (powL (by omega) hb)
theorem flowL {t : Tm} {bs : List Bool} (hb : 2 ^ (t.nodes - 1) * bs.length ≤ 40000) : (flow t bs).length ≤ 40000 := Nat.le_trans (flow_len t bs) hb
theorem sz2 {a b : V} : [a, b].length ≤ sizeLine := (by decide : 2 ≤ sizeLine)
theorem oNw (w : W1) : (if true = true then !inV (.str w.s) [.str "by", .str "keep"] else inV (.str w.s) [.str "by", .str "keep"]) = true := by cases w <;> decide +kernel
theorem oNl : (if true = true then !inV (.str "late") [.str "by", .str "keep"] else inV (.str "late") [.str "by", .str "keep"]) = true := by decide +kernel
theorem oNb : (if true = true then !inV (.str "by") [.str "by", .str "keep"] else inV (.str "by") [.str "by", .str "keep"]) = false := by decide +kernel
theorem oNk : (if true = true then !inV (.str "keep") [.str "by", .str "keep"] else inV (.str "keep") [.str "by", .str "keep"]) = false := by decide +kernel
theorem _root_.List.getElem?_map_some {α β : Type} {f : α → β} {l : List α} {i : Nat} {y : β} (h : (l.map f)[i]? = some y) : ∃ x, l[i]? = some x ∧ y = f x := by
  rw [List.getElem?_map] at h
  obtain ⟨x, hx, rfl⟩ := Option.map_eq_some_iff.mp h
  exact ⟨x, hx, rfl⟩
theorem zipV_get {f g : List Bool} {i : Nat} {q : V × V} (h : (zipV (tx f) (tx g))[i]? = some q) : ∃ x y, f[i]? = some x ∧ g[i]? = some y ∧ q = (.str ⟨#[cd x]⟩, .str ⟨#[cd y]⟩) := by
  unfold zipV at h
  obtain ⟨p, hp, rfl⟩ := List.getElem?_map_some h
  rw [tx_toList, tx_toList, List.getElem?_zip_eq_some] at hp
  obtain ⟨h1, h2⟩ := hp
  obtain ⟨x, hx, e1⟩ := List.getElem?_map_some h1
  obtain ⟨y, hy, e2⟩ := List.getElem?_map_some h2
  exact ⟨x, y, hx, hy, by rw [e1, e2]; rfl⟩
section
variable {P : Program} {w : World} {K : PySem.W.Frag} {mg : Str → Option Value} {base : Heap} {aS a1 a2 : Addr} {f : Addr} {fd : FuncData}
abbrev s_law_flow : Stmt := top 115
abbrev N_law_flow : List Str := ["_law_term_here", "_law_stream_here", "_law_pairs", "_law_sign", "_law_mark"]
theorem sc_law_flow : FnScope N_law_flow ["_law_term_here", "_law_stream_here"] (defScope s_law_flow) := ⟨rfl, rfl, rfl, by decide +kernel, rfl, by decide +kernel, by decide +kernel⟩
theorem step_law_flow {n : Nat} (F : Fun K "_law_flow" "_law_flow" s_law_flow f fd) (T : Txt K mg aS a1 a2) (c__law_single : C8.Cal P w K mg base 1 "_law_single" spOfOne []) (c__law_flow : C8.Cal P w K mg base (n + 3) "_law_flow" (spFlowL n) []) : FnOk P w K mg base CX0 (n + 4) f fd ["_law_term_here", "_law_stream_here"] (spFlowL (n + 1)) := by
  refine F.ok sc_law_flow (fun vs H Q E h => ?_) (fun cdv A outer s H vs Q E hr h => ?_)
  · obtain ⟨b, t, bs, rfl, _⟩ := h
    rfl
  obtain ⟨v, t, bs, rfl, ta, hn, h9, hb, q⟩ := h
  refine ⟨_, (pss_cons (ps_if (pt_cmpR (kEqD K rfl hr.units) (pv 0) pe_str (nomark _))
        (pss_one (ps_ret (pv 1)))
        pss_nil)
        (pss_cons (ps_if (pt_cmpR op_eq (pe_ix (kIxT K rfl) (pv 0) pe_int (fun _ _ => rfl)) pe_str (nomark _))
        (pss_one (ps_ret (C8.pe_c c__law_flow hr (by omega) rfl (pa_cons (pe_ix (kIxT K rfl) (pv 0) pe_int (fun _ _ => rfl)) (pa_cons (C8.pe_c c__law_flow hr (by omega) rfl (pa_cons (pe_ix (kIxT K rfl) (pv 0) pe_int (fun _ _ => rfl)) (pa_cons (pv 1) pa_nil))) pa_nil)))))
        pss_nil)
        (pss_cons (ps_if (pt_cmpR (kNotIn K rfl) (pe_ix (kIxT K rfl) (pv 0) pe_int (fun _ _ => rfl)) (pe_tup (pa_cons pe_str (pa_cons pe_str pa_nil))) rfl)
        (pss_one (ps_ret (C8.pe_c c__law_single hr (by omega) rfl (pa_cons (pv 0) (pa_cons (C8.pe_c c__law_flow hr (by omega) rfl (pa_cons (pe_ix (kIxT K rfl) (pv 0) (pe_un un_neg pe_int) (fun _ _ => rfl)) (pa_cons (pv 1) pa_nil))) pa_nil)))))
        pss_nil)
        (pss_cons (ps_set (i := 2) sc_law_flow.nd rfl (Or.inl rfl) (pe_listZip rfl (pa_cons (C8.pe_c c__law_flow hr (by omega) rfl (pa_cons (pe_ix (kIxT K rfl) (pv 0) (pe_un un_neg pe_int) (fun _ _ => rfl)) (pa_cons (pv 1) pa_nil))) (pa_cons (C8.pe_c c__law_flow hr (by omega) rfl (pa_cons (pe_ix (kIxT K rfl) (pv 0) (pe_un un_neg pe_int) (fun _ _ => rfl)) (pa_cons (pv 1) pa_nil))) pa_nil)) rfl T.b_list rfl T.b_zip))
        (pss_cons (ps_if (pt_cmpR op_eq (pe_ix (kIxT K rfl) (pv 0) pe_int (fun _ _ => rfl)) pe_str (nomark _))
        (pss_one (ps_ret (kJoin K rfl pe_str (pe_lc (own := [("_law_sign", 3), ("_law_mark", 4)]) rfl sc_law_flow.nd (kList K rfl (pv 2)) (blkOk_by (N := N_law_flow) (sc := defScope s_law_flow) (by decide +kernel)) (fun _ _ _ _ _ => (kTupG (n := 2) K rfl rfl (pgs_cons (pg_name (i := 3) sc_law_flow.nd rfl (Or.inl rfl)) (pgs_cons (pg_name (i := 4) sc_law_flow.nd rfl (Or.inl rfl)) pgs_nil)))) (fun _ _ _ _ _ => pts_one (pt_cmpR op_eq (pv 4) pe_str (nomark _))) (fun _ _ _ _ _ => (pv 3))))))
        pss_nil)
        (pss_one (ps_ret (kJoin K rfl pe_str (pe_lc (own := [("_law_sign", 3), ("_law_mark", 4)]) rfl sc_law_flow.nd (kList K rfl (pv 2)) (blkOk_by (N := N_law_flow) (sc := defScope s_law_flow) (by decide +kernel)) (fun _ _ _ _ _ => (kTupG (n := 2) K rfl rfl (pgs_cons (pg_name (i := 3) sc_law_flow.nd rfl (Or.inl rfl)) (pgs_cons (pg_name (i := 4) sc_law_flow.nd rfl (Or.inl rfl)) pgs_nil)))) (fun _ _ _ _ _ => pts_nil) (fun _ _ _ _ _ => (pe_ix ix_str (pe_ix (kIxT K rfl) (pv 0) pe_int (fun _ _ => rfl)) (pe_op op_add (pe_op op_mul pe_int (pe_callTy call_int_str rfl T.b_int bt_int (pa_cons (pv 3) pa_nil))) (pe_callTy call_int_str rfl T.b_int bt_int (pa_cons (pv 4) pa_nil))) (fun _ _ => rfl)))))))))))), ?_⟩
  refine ⟨_, rfl, _, _, ta.dp, .str _, shp_tm (by omega), shp_in, _, rfl, ?_⟩
  rw [eqv_in]
  have h8 := flowL hb
  have ta0 := ta
  cases t with
  | inn => exact iteT ⟨_, rfl, q _ (Same.refl _)⟩
  | thn t u =>
    obtain ⟨a, x, y, rfl, h, r, r'⟩ := ta
    have hnd : (Tm.thn t u).nodes = t.nodes + u.nodes + 1 := rfl
    have := t.nodes_pos
    have := u.nodes_pos
    refine iteF ?_
    refine ⟨_, rfl, _, _, _, _, rfl, rfl, SqT.of h, rfl, rfl, _, rfl, iteTd (by decide +kernel) ?_⟩
    refine ⟨_, rfl, _, _, _, _, rfl, rfl, SqT.of h, rfl, _, rfl, _, _, _, _, rfl, rfl, SqT.of h, rfl, _, rfl, _, t, bs, rfl, r, by omega, by omega, powL (by omega) hb, fun H1 s1 => ?_⟩
    exact ⟨_, u, flow t bs, rfl, r'.keep (Tups.of s1), by omega, by omega, thnL hb, fun H2 s2 => q _ (s1.trans' s2)⟩
  | one w t =>
    obtain ⟨a, x, rfl, h, r⟩ := ta
    have hnd : (Tm.one w t).nodes = t.nodes + 1 := rfl
    refine iteF ?_
    refine ⟨_, rfl, _, _, _, _, rfl, rfl, SqT.of h, rfl, rfl, _, rfl, iteFd (by cases w <;> decide +kernel) ?_⟩
    refine ⟨_, rfl, _, _, _, _, rfl, rfl, SqT.of h, rfl, sz2, fun p0 hp0 => ⟨_, _, rfl, .inr (SqT.of upd_same), rfl, rfl, _, rfl, iteTd (oNw w) ?_⟩⟩
    have k0 := same_new hp0 (.tup [.str "by", .str "keep"])
    have h0 := k0 _ _ h
    refine ⟨_, rfl, _, rfl, _, rfl, _, _, _, _, rfl, rfl, SqT.of h0, rfl, _, rfl, _, t, bs, rfl, r.keep (Tups.of k0), by omega, by omega, powL (by omega) hb, fun H1 s1 => ?_⟩
    have hu8 : (flow t bs).length ≤ 40000 := flowL (powL (by omega) hb)
    exact ⟨_, _, flow t bs, rfl, ta0.keep (Tups.of (k0.trans' s1)), rfl, by omega, fun H2 s2 => q _ ((k0.trans' s1).trans' s2)⟩
  | late b t =>
    obtain ⟨a, x, rfl, h, r⟩ := ta
    have hnd : (Tm.late b t).nodes = t.nodes + 1 := rfl
    refine iteF ?_
    refine ⟨_, rfl, _, _, _, _, rfl, rfl, SqT.of h, rfl, rfl, _, rfl, iteFd (by decide +kernel) ?_⟩
    refine ⟨_, rfl, _, _, _, _, rfl, rfl, SqT.of h, rfl, sz2, fun p0 hp0 => ⟨_, _, rfl, .inr (SqT.of upd_same), rfl, rfl, _, rfl, iteTd oNl ?_⟩⟩
    have k0 := same_new hp0 (.tup [.str "by", .str "keep"])
    have h0 := k0 _ _ h
    refine ⟨_, rfl, _, rfl, _, rfl, _, _, _, _, rfl, rfl, SqT.of h0, rfl, _, rfl, _, t, bs, rfl, r.keep (Tups.of k0), by omega, by omega, powL (by omega) hb, fun H1 s1 => ?_⟩
    have hu8 : (flow t bs).length ≤ 40000 := flowL (powL (by omega) hb)
    exact ⟨_, _, flow t bs, rfl, ta0.keep (Tups.of (k0.trans' s1)), rfl, by omega, fun H2 s2 => q _ ((k0.trans' s1).trans' s2)⟩
  | keep t u =>
    obtain ⟨a, x, y, rfl, h, r, r'⟩ := ta
    have hnd : (Tm.keep t u).nodes = t.nodes + u.nodes + 1 := rfl
    have := t.nodes_pos
    have := u.nodes_pos
    refine iteF ?_
    refine ⟨_, rfl, _, _, _, _, rfl, rfl, SqT.of h, rfl, rfl, _, rfl, iteFd (by decide +kernel) ?_⟩
    refine ⟨_, rfl, _, _, _, _, rfl, rfl, SqT.of h, rfl, sz2, fun p0 hp0 => ⟨_, _, rfl, .inr (SqT.of upd_same), rfl, rfl, _, rfl, iteFd oNk ?_⟩⟩
    have k0 := same_new hp0 (.tup [.str "by", .str "keep"])
    have h0 := k0 _ _ h
    refine ⟨_, rfl, _, rfl, _, _, _, _, rfl, rfl, SqT.of h0, rfl, _, rfl, _, t, bs, rfl, r.keep (Tups.of k0), by omega, by omega, powL (by omega) hb, fun H1 s1 => ?_⟩
    refine ⟨_, rfl, _, rfl, _, _, _, _, rfl, rfl, SqT.of (s1 _ _ h0), rfl, _, rfl, _, u, bs, rfl, r'.keep (Tups.of (k0.trans' s1)), by omega, by omega, powL (by omega) hb, fun H2 s2 => ?_⟩
    have hu8 : (flow t bs).length ≤ 40000 := flowL (powL (by omega) hb)
    refine ⟨_, _, rfl, by rw [tx_len]; exact small5 (by omega), fun H3 p ts s3 hp hts hpt hl3 pr => ?_⟩
    have kk : Same H H3 := (((k0.trans' s1).trans' s2).trans' s3)
    have h3 := kk _ _ h
    have hlen : ts.length = min (flow t bs).length (flow u bs).length := by rw [paired_len pr, zipV_len, tx_size, tx_size]
    refine ⟨_, rfl, _, _, _, _, rfl, rfl, SqT.of h3, rfl, rfl, _, rfl, iteTd (by decide +kernel) ?_⟩
    refine ⟨⟨_, rfl⟩, _, rfl, _, rfl, ⟨_, SqL.of hl3⟩, fun D hD => lc_it walk_list (fun i H' => Same H3 H' ∧ H' D = some (.lst ((keepL ((flow t bs).take i) ((flow u bs).take i)).map vs))) ⟨same_new hD _, upd_same⟩ (fun i H' _ z => SqL.of (z.1 _ _ hl3)) ?_ ?_⟩
    · rintro i x H4 H5 hi ⟨sm, hd⟩ ⟨rfl, hx⟩
      obtain ⟨tt, htt, rfl⟩ := List.getElem?_map_some hx
      obtain ⟨qq, hq, ht⟩ := paired_get pr htt
      obtain ⟨x, y, hx, hy, rfl⟩ := zipV_get hq
      have ht4 := sm _ _ ht
      have hil := lt_len hx
      have hsn := keep_snoc _ _ i x y hx hy
      have hkl := keepL_len ((flow t bs).take i) ((flow u bs).take i)
      refine ⟨_, _, rfl, SqT.of ht4, rfl, _, _, rfl, _, _, rfl, rfl, rfl, ?_⟩
      refine ⟨_, rfl, rfl, _, rfl, ?_⟩
      rw [show decide (V.str { cps := #[cd y] } = V.str (Str.ofString "1")) = y by cases y <;> decide +kernel]
      cases y with
      | false =>
        refine iteF ⟨sm, ?_⟩
        rw [hd, hsn]
        simp
      | true =>
        refine iteT ⟨_, rfl, _, hd, ?_, same_at sm hD, ?_⟩
        · rw [List.length_map]
          rw [List.length_take] at hkl
          exact Nat.lt_of_lt_of_le (show _ < 100000 by omega) (by decide)
        rw [upd_same, hsn]
        simp
        rfl
    · rintro H4 ⟨sm, hd⟩
      rw [List.length_map, hlen, keep_all] at hd
      have := keepL_len (flow t bs) (flow u bs)
      exact joinEnd hd (by omega) (q _ (kk.trans' sm))
  | byy b1 b2 b3 b4 t u =>
    obtain ⟨a, x, y, rfl, h, r, r'⟩ := ta
    have hnd : (Tm.byy b1 b2 b3 b4 t u).nodes = t.nodes + u.nodes + 1 := rfl
    have := t.nodes_pos
    have := u.nodes_pos
    refine iteF ?_
    refine ⟨_, rfl, _, _, _, _, rfl, rfl, SqT.of h, rfl, rfl, _, rfl, iteFd (by decide +kernel) ?_⟩
    refine ⟨_, rfl, _, _, _, _, rfl, rfl, SqT.of h, rfl, sz2, fun p0 hp0 => ⟨_, _, rfl, .inr (SqT.of upd_same), rfl, rfl, _, rfl, iteFd oNb ?_⟩⟩
    have k0 := same_new hp0 (.tup [.str "by", .str "keep"])
    have h0 := k0 _ _ h
    refine ⟨_, rfl, _, rfl, _, _, _, _, rfl, rfl, SqT.of h0, rfl, _, rfl, _, t, bs, rfl, r.keep (Tups.of k0), by omega, by omega, powL (by omega) hb, fun H1 s1 => ?_⟩
    refine ⟨_, rfl, _, rfl, _, _, _, _, rfl, rfl, SqT.of (s1 _ _ h0), rfl, _, rfl, _, u, bs, rfl, r'.keep (Tups.of (k0.trans' s1)), by omega, by omega, powL (by omega) hb, fun H2 s2 => ?_⟩
    have hu8 : (flow t bs).length ≤ 40000 := flowL (powL (by omega) hb)
    refine ⟨_, _, rfl, by rw [tx_len]; exact small5 (by omega), fun H3 p ts s3 hp hts hpt hl3 pr => ?_⟩
    have kk : Same H H3 := (((k0.trans' s1).trans' s2).trans' s3)
    have h3 := kk _ _ h
    have hlen : ts.length = min (flow t bs).length (flow u bs).length := by rw [paired_len pr, zipV_len, tx_size, tx_size]
    refine ⟨_, rfl, _, _, _, _, rfl, rfl, SqT.of h3, rfl, rfl, _, rfl, iteFd (by decide +kernel) ?_⟩
    refine ⟨⟨_, rfl⟩, _, rfl, _, rfl, ⟨_, SqL.of hl3⟩, fun D hD => lc_it walk_list (fun i H' => Same H3 H' ∧ H' D = some (.lst (((byL b1 b2 b3 b4 (flow t bs) (flow u bs)).take i).map vs))) ⟨same_new hD _, upd_same⟩ (fun i H' _ z => SqL.of (z.1 _ _ hl3)) ?_ ?_⟩
    · rintro i x H4 H5 hi ⟨sm, hd⟩ ⟨rfl, hx⟩
      obtain ⟨tt, htt, rfl⟩ := List.getElem?_map_some hx
      obtain ⟨qq, hq, ht⟩ := paired_get pr htt
      obtain ⟨x, y, hx, hy, rfl⟩ := zipV_get hq
      have ht4 := sm _ _ ht
      have hil := lt_len hx
      have hg := by_get b1 b2 b3 b4 _ _ i x y hx hy
      refine ⟨_, _, rfl, SqT.of ht4, rfl, _, _, rfl, _, _, rfl, rfl, rfl, tyI ?_⟩
      refine ⟨_, rfl, _, _, _, _, rfl, rfl, SqT.of (sm _ _ h3), rfl, _, rfl, _, _, rfl, int_sgn x, sl640 _, _, _, rfl, rfl, .inl (by decide), _, rfl, _, _, rfl, int_sgn y, sl640 _, _, _, rfl, rfl, ?_⟩
      refine ⟨_, _, cd (if x then (if y then b4 else b3) else (if y then b2 else b1)), rfl, rfl, by rw [tx_len]; exact small5 (by simp), ?_, ?_⟩
      · rw [tx_toList]
        cases x <;> cases y <;> rfl
      refine ⟨_, hd, take_len_le _ _ _ (by omega), same_at sm hD, ?_⟩
      rw [upd_same, ← take_one _ hg]
      rfl
    · rintro H4 ⟨sm, hd⟩
      rw [List.length_map, hlen, List.take_of_length_le (by rw [by_len]; omega)] at hd
      exact joinEnd hd (by rw [by_len]; omega) (q _ (kk.trans' sm))
theorem ok_law_flow (F : Fun K "_law_flow" "_law_flow" s_law_flow f fd) (T : Txt K mg aS a1 a2) (hm : mg "_law_flow" = some (.ref f)) (hk : PySem.W.keepIn K (.ref f) = true) (hb : Binds K fd ["_law_term_here", "_law_stream_here"] []) (c__law_single : C8.Cal P w K mg base 1 "_law_single" spOfOne []) : ∀ n, C8.Cal P w K mg base (n + 3) "_law_flow" (spFlowL n) []
  | 0 => ⟨f, fd, _, [], ⟨by rintro vs H Q E ⟨b, t, bs, rfl, _⟩; rfl, by
      rintro A outer s H args us vs Q E hr e0 hb r ⟨b, t, bs, rfl, _, hn, _⟩
      have := t.nodes_pos
      omega⟩, hm, hk, hb, .nil⟩
  | n + 1 => ⟨f, fd, _, [], step_law_flow F T c__law_single (ok_law_flow F T hm hk hb c__law_single n), hm, hk, hb, .nil⟩
end
def spNodes (n : Nat) : Sp := fun vs H Q _ => ∃ v t, vs = [v] ∧ TA H v t ∧ t.dep ≤ n ∧ t.dep ≤ 60 ∧ ∀ H', Same H H' → Q (.int t.nodes) H'
theorem extra_not (t : Tm) (z : Str) (h : z ∈ t.extra) : PyData.eqv (.str z) (.str "in") = false ∧ SeqAt.shaped (.str z) = true := by
  cases t with
  | late b t =>
    simp [Tm.extra] at h
    subst h
    cases b <;> exact ⟨by decide +kernel, by decide +kernel⟩
  | byy a b c d t u =>
    simp [Tm.extra] at h
    subst h
    cases a <;> cases b <;> cases c <;> cases d <;> exact ⟨by decide +kernel, by decide +kernel⟩
  | _ => simp [Tm.extra] at h
theorem cut1 (x : V) (xs : List V) : cutV (x :: xs) (some 1) none = xs := by
  unfold cutV
  rw [HT.sIx_none, show HT.sIx (x :: xs).length 0 (some 1) = 1 by
    have := HT.sIx_nat (x :: xs).length 0 1
    simp only [List.length_cons] at this ⊢
    rw [show ((1 : Nat) : Int) = 1 from rfl] at this
    rw [this]; omega]
  simp
theorem nwh (x : V) (xs : List V) {p : Prop} : ¬ (HT.sIx (x :: xs).length 0 (some 1) = 0 ∧ p) := by
  have := HT.sIx_nat (x :: xs).length 0 1
  rw [show ((1 : Nat) : Int) = 1 from rfl] at this
  rw [this]
  simp only [List.length_cons]
  omega
theorem extra_le (t : Tm) : t.extra.length ≤ 1 := by cases t <;> simp [Tm.extra]
theorem sum_nodes : ∀ ts : List Tm, (ts.map fun t => (t.nodes : Int)).sum = sumN ts
  | [] => rfl
  | t :: r => by simp [sumN, sum_nodes r]
section
variable {P : Program} {w : World} {K : PySem.W.Frag} {mg : Str → Option Value} {base : Heap} {aS a1 a2 : Addr} {f : Addr} {fd : FuncData}
end
end FY


set_option Elab.async false
set_option linter.all false
set_option maxRecDepth 100000
set_option maxHeartbeats 4000000
namespace FY
open PySem L2 FYR
/-- all but p stays -/
def Kp (p : Addr) (H H' : Hp) : Prop := ∀ b o, b ≠ p → H b = some o → H' b = some o
def Pot (p : Addr) (H : Hp) : Prop := ∃ a b : Int, H p = some (.lst [.int a, .int b]) ∧ 0 ≤ a ∧ 0 ≤ b ∧ b < 2147483563
theorem Kp.refl (p : Addr) (H : Hp) : Kp p H H := fun _ _ _ h => h
theorem Kp.trans {p : Addr} {H H1 H2 : Hp} (a : Kp p H H1) (b : Kp p H1 H2) : Kp p H H2 := fun x o n e => b x o n (a x o n e)
theorem Kp.of {p : Addr} {H H' : Hp} (s : Same H H') : Kp p H H' := fun b o _ e => s b o e
theorem Pot.tups {p : Addr} {H H' : Hp} (a : Pot p H) (k : Kp p H H') : Tups H H' := fun b xs e => by
  obtain ⟨_, _, h, _⟩ := a
  refine k b _ (fun z => ?_) e
  rw [z, h] at e
  cases e
theorem Pot.same {p : Addr} {H H' : Hp} (a : Pot p H) (s : Same H H') : Pot p H' := by
  obtain ⟨x, y, h, r⟩ := a
  exact ⟨x, y, s _ _ h, r⟩
theorem Pot.ne {p q : Addr} {H : Hp} (a : Pot p H) (h : H q = none) : q ≠ p := fun z => by
  obtain ⟨_, _, e, _⟩ := a
  rw [z, e] at h
  cases h
theorem kp_new {p q : Addr} {H : Hp} (h : H q = none) (o : HO) : Kp p H (upd H q o) := Kp.of (same_new h o)
theorem kp_upd {p : Addr} {H : Hp} (o : HO) : Kp p H (upd H p o) := fun b u n e => by rw [upd_ne n]; exact e
def spDraw : Sp := fun vs H Q _ => ∃ p n, vs = [.ref p, .int n] ∧ Pot p H ∧ 0 < n ∧ n < 1073741824 ∧ ∀ (d : Int) (H' : Hp), 0 ≤ d → d < n → Kp p H H' → Pot p H' → Q (.int d) H'
def spPick : Sp := fun vs H Q _ => ∃ p L xs, vs = [.ref p, .ref L] ∧ Pot p H ∧ L ≠ p ∧ H L = some (.lst xs) ∧ 0 < xs.length ∧ xs.length ≤ 100 ∧ ∀ (x : V) (H' : Hp), x ∈ xs → Kp p H H' → Pot p H' → Q x H'
def spTerm (n : Nat) : Sp := fun vs H Q _ => ∃ p m, vs = [.ref p, .int m] ∧ Pot p H ∧ 1 ≤ m ∧ m ≤ n ∧ n ≤ 1000 ∧ ∀ (v : V) (t : Tm) (H' : Hp), TA H' v t → (t.nodes : Int) ≤ m → Kp p H H' → Pot p H' → Q v H'
def spStream : Sp := fun vs H Q _ => ∃ p m, vs = [.ref p, .int m] ∧ Pot p H ∧ 0 ≤ m ∧ m ≤ 1000 ∧ ∀ (bs : List Bool) (H' : Hp), (bs.length : Int) ≤ m → Kp p H H' → Pot p H' → Q (.str (tx bs)) H'
def spAround : Sp := fun vs H Q _ => ∃ p v t, vs = [.ref p, v] ∧ Pot p H ∧ TA H v t ∧ ∀ (v' : V) (t' : Tm) (H' : Hp), TA H' v' t' → t'.nodes ≤ t.nodes + 3 → Kp p H H' → Pot p H' → Q v' H'
theorem atI_mem {xs : List V} {d : Int} (h0 : 0 ≤ d) (h1 : d < xs.length) : ∃ x, atI xs d = some x ∧ x ∈ xs := by
  have hl : d.toNat < xs.length := by omega
  refine ⟨xs[d.toNat], ?_, List.getElem_mem hl⟩
  unfold atI ixN
  rw [if_pos h0, if_pos h1]
  show xs[d.toNat]? = _
  rw [List.getElem?_eq_getElem hl]
section
variable {P : Program} {w : World} {K : PySem.W.Frag} {mg : Str → Option Value} {base : Heap} {aS a1 a2 : Addr} {f : Addr} {fd : FuncData}
abbrev s_law_draw : Stmt := top 111
abbrev N_law_draw : List Str := ["_law_pot_here", "_law_size", "_law_digit"]
theorem sc_law_draw : FnScope N_law_draw ["_law_pot_here", "_law_size"] (defScope s_law_draw) := ⟨rfl, rfl, rfl, by decide +kernel, rfl, by decide +kernel, by decide +kernel⟩
theorem ok_law_draw (F : Fun K "_law_draw" "_law_draw" s_law_draw f fd) (T : Txt K mg aS a1 a2) : FnOk P w K mg base CX0 1 f fd ["_law_pot_here", "_law_size"] spDraw := by
  refine F.ok sc_law_draw (fun vs H Q E h => ?_) (fun cdv A outer s H vs Q E hr h => ?_)
  · obtain ⟨p, n, rfl, _⟩ := h
    rfl
  obtain ⟨p, n, rfl, ⟨a, b, hp, ha, hb0, hb1⟩, hn0, hn1, q⟩ := h
  refine ⟨_, (pss_cons (ps_if (pt_cmpR op_gt (pe_ix (kIxL K rfl) (pv 0) pe_int (fun _ _ => rfl)) pe_int (nomark _))
        (pss_cons (ps_asg (pe_callB call_divmodW rfl T.b_divmod bt_divmod (pa_cons (pe_ix (kIxL K rfl) (pv 0) pe_int (fun _ _ => rfl)) (pa_cons (pv 1) pa_nil))) (kTupG (n := 2) K rfl rfl (pgs_cons (pg_sub (pv 0) pe_int set_list) (pgs_cons (pg_name (i := 2) sc_law_draw.nd rfl (Or.inl rfl)) pgs_nil))))
        (pss_one (ps_ret (pv 2))))
        pss_nil)
        (pss_cons (ps_asg (pe_op op_mod (pe_callTy call_int1 rfl T.b_int bt_int (pa_cons (pe_op op_add (pe_op op_mul (pe_ix (kIxL K rfl) (pv 0) pe_int (fun _ _ => rfl)) pe_int) pe_int) pa_nil)) pe_int) (pg_sub (pv 0) pe_int set_list))
        (pss_one (ps_ret (pe_op op_mod (pe_callTy call_int1 rfl T.b_int bt_int (pa_cons (pe_op op_fdiv (pe_op op_mod (pe_callTy call_int1 rfl T.b_int bt_int (pa_cons (pe_op op_mul (pe_ix (kIxL K rfl) (pv 0) pe_int (fun _ _ => rfl)) (pe_ix (kIxL K rfl) (pv 0) pe_int (fun _ _ => rfl))) pa_nil)) pe_int) pe_int) pa_nil)) (pv 1)))))), ?_⟩
  refine ⟨_, rfl, _, _, _, _, rfl, rfl, SqL.of hp, rfl, _, _, rfl, rfl, _, rfl, ?_⟩
  by_cases h0 : 0 < a
  · refine iteTd (by simpa using h0) ?_
    refine ⟨_, rfl, _, _, _, _, rfl, rfl, SqL.of hp, rfl, _, rfl, _, _, rfl, ⟨hn0, PyProof.noPylong_small (by omega)⟩, fun T0 hT => ?_⟩
    have hne : p ≠ T0 := fun z => by rw [← z, hp] at hT; cases hT
    refine ⟨_, _, rfl, SqT.of upd_same, rfl, _, _, rfl, _, rfl, _, _, _, _, rfl, rfl, (upd_ne hne).trans hp, rfl, _, _, rfl, rfl, _, rfl, ?_⟩
    refine q _ _ (Int.emod_nonneg _ (by omega)) (Int.emod_lt_of_pos _ hn0) ((kp_new hT _).trans (kp_upd _)) ⟨_, _, upd_same, Int.ediv_nonneg ha (by omega), hb0, hb1⟩
  · refine iteFd (by simpa using h0) ?_
    refine ⟨_, rfl, _, _, _, _, rfl, rfl, SqL.of hp, rfl, _, _, rfl, rfl, .inr (by decide), _, _, rfl, rfl, .inl ⟨_, rfl, _, _, rfl, rfl, (by decide : (0 : Int) < 2147483543), _, rfl, _, _, _, _, rfl, rfl, hp, rfl, ?_⟩⟩
    refine ⟨_, rfl, _, _, _, _, rfl, rfl, SqL.of upd_same, rfl, _, rfl, _, _, _, _, rfl, rfl, SqL.of upd_same, rfl, _, _, rfl, rfl, .inl ?_, .inl ⟨_, rfl, _, _, rfl, rfl, (by decide : (0 : Int) < 2147483563), _, _, rfl, rfl, ⟨by decide, by decide⟩, .inl ⟨_, rfl, _, rfl, _, _, rfl, rfl, hn0, ?_⟩⟩⟩
    · have h1 := Int.emod_nonneg (b * 48271 + 22861) (show (2147483543 : Int) ≠ 0 by decide)
      have h2 := Int.emod_lt_of_pos (b * 48271 + 22861) (show (0 : Int) < 2147483543 by decide)
      constructor <;> omega
    · refine q _ _ (Int.emod_nonneg _ (by omega)) (Int.emod_lt_of_pos _ hn0) (kp_upd _) ⟨_, _, upd_same, ha, Int.emod_nonneg _ (by decide), ?_⟩
      have h2 := Int.emod_lt_of_pos (b * 48271 + 22861) (show (0 : Int) < 2147483543 by decide)
      omega
abbrev s_law_pick : Stmt := top 112
abbrev N_law_pick : List Str := ["_law_pot_here", "_law_some"]
theorem sc_law_pick : FnScope N_law_pick ["_law_pot_here", "_law_some"] (defScope s_law_pick) := ⟨rfl, rfl, rfl, by decide +kernel, rfl, by decide +kernel, by decide +kernel⟩
theorem ok_law_pick (F : Fun K "_law_pick" "_law_pick" s_law_pick f fd) (T : Txt K mg aS a1 a2) (c__law_draw : C8.Cal P w K mg base 1 "_law_draw" spDraw []) : FnOk P w K mg base CX0 2 f fd ["_law_pot_here", "_law_some"] spPick := by
  refine F.ok sc_law_pick (fun vs H Q E h => ?_) (fun cdv A outer s H vs Q E hr h => ?_)
  · obtain ⟨p, n, xs, rfl, _⟩ := h
    rfl
  obtain ⟨p, L, xs, rfl, hp, hne, hL, h0, h1, q⟩ := h
  refine ⟨_, (pss_one (ps_ret (pe_ix (kIxL K rfl) (pv 1) (C8.pe_c c__law_draw hr (by decide) rfl (pa_cons (pv 0) (pa_cons (pe_callB (kLen K rfl) rfl T.b_len bt_len (pa_cons (pv 1) pa_nil)) pa_nil))) (fun _ _ => rfl)))), ?_⟩
  refine ⟨_, rfl, _, rfl, _, rfl, _, _, rfl, .inl (SqL.of hL), p, _, rfl, hp, by omega, by omega, fun d H' d0 d1 k pt => ?_⟩
  obtain ⟨x, hx, hm⟩ := atI_mem d0 d1
  exact ⟨_, _, _, x, rfl, rfl, SqL.of (k _ _ hne hL), hx, q _ _ hm k pt⟩
end
end FY


set_option Elab.async false
set_option linter.all false
set_option maxRecDepth 100000
set_option maxHeartbeats 4000000
namespace FY
open PySem L2 FYR
def spPot (K : PySem.W.Frag) : Sp := fun vs H Q _ => ∃ (L : Addr) (ns : List Int) (k : Int), vs = [.ref L, .int k] ∧ SqL K H L (ns.map V.int) ∧ 0 ≤ k ∧ k < 64 ∧ ∀ (H' : Hp) (p : Addr), Same H H' → H p = none → Pot p H' → Q (.ref p) H'
theorem sz {xs : List V} (h : Nat.ble xs.length 10 = true) : xs.length ≤ sizeLine := Nat.le_trans (Nat.le_of_ble_eq_true h) (by decide)
theorem kp_at {p L : Addr} {H H1 : Hp} {o : HO} (a : Kp p H H1) (h : H L = none) : Kp p H (upd H1 L o) := fun b u n e => by
  rw [upd_ne (ne_of_none e h)]
  exact a b u n e
theorem pot_at {p L : Addr} {H : Hp} {o : HO} (a : Pot p H) (h : L ≠ p) : Pot p (upd H L o) := by
  obtain ⟨x, y, e, r⟩ := a
  exact ⟨x, y, (upd_ne (Ne.symm h)).trans e, r⟩
theorem w6 {x : V} (h : x ∈ [V.str "not", V.str "twice", V.str "half", V.str "change", V.str "count", V.str "late"]) : (∃ w : W1, x = .str w.s) ∨ x = .str "late" := by
  simp only [List.mem_cons, List.not_mem_nil, or_false] at h
  rcases h with h | h | h | h | h | h
  · exact .inl ⟨.no, h⟩
  · exact .inl ⟨.twice, h⟩
  · exact .inl ⟨.half, h⟩
  · exact .inl ⟨.change, h⟩
  · exact .inl ⟨.count, h⟩
  · exact .inr h
theorem w5 {x : V} (h : x ∈ [V.str "not", V.str "twice", V.str "half", V.str "change", V.str "count"]) : ∃ w : W1, x = .str w.s := by
  simp only [List.mem_cons, List.not_mem_nil, or_false] at h
  rcases h with h | h | h | h | h
  · exact ⟨.no, h⟩
  · exact ⟨.twice, h⟩
  · exact ⟨.half, h⟩
  · exact ⟨.change, h⟩
  · exact ⟨.count, h⟩
theorem w4 {x : V} (h : x ∈ [V.str "by", V.str "by", V.str "keep", V.str "then"]) : x = .str "by" ∨ x = .str "keep" ∨ x = .str "then" := by
  simp only [List.mem_cons, List.not_mem_nil, or_false] at h
  rcases h with h | h | h | h
  · exact .inl h
  · exact .inl h
  · exact .inr (.inl h)
  · exact .inr (.inr h)
theorem w2 {x : V} (h : x ∈ [V.str "0", V.str "1"]) : ∃ b, x = .str (sgn b) := by
  simp only [List.mem_cons, List.not_mem_nil, or_false] at h
  rcases h with h | h
  · exact ⟨false, by rw [h, s0]⟩
  · exact ⟨true, by rw [h, s1]⟩
theorem tb4 {x : V} {bs : List Bool} (hb : bs.length = 4) (h : x ∈ [V.str "0110", V.str "0001", V.str "0111", V.str (tx bs)]) : ∃ a b c d, x = .str (tx [a, b, c, d]) := by
  simp only [List.mem_cons, List.not_mem_nil, or_false] at h
  rcases h with h | h | h | h
  · exact ⟨false, true, true, false, by rw [h]; exact congrArg V.str (by decide +kernel)⟩
  · exact ⟨false, false, false, true, by rw [h]; exact congrArg V.str (by decide +kernel)⟩
  · exact ⟨false, true, true, true, by rw [h]; exact congrArg V.str (by decide +kernel)⟩
  · match bs, hb with
    | [a, b, c, d], _ => exact ⟨a, b, c, d, h⟩
section
variable {P : Program} {w : World} {K : PySem.W.Frag} {mg : Str → Option Value} {base : Heap} {aS a1 a2 : Addr} {f : Addr} {fd : FuncData}
abbrev s_law_pot : Stmt := top 110
abbrev N_law_pot : List Str := ["_law_script", "_law_k", "_law_cell"]
theorem sc_law_pot : FnScope N_law_pot ["_law_script", "_law_k"] (defScope s_law_pot) := ⟨rfl, rfl, rfl, by decide +kernel, rfl, by decide +kernel, by decide +kernel⟩
theorem ok_law_pot (F : Fun K "_law_pot" "_law_pot" s_law_pot f fd) (T : Txt K mg aS a1 a2) : FnOk P w K mg base CX0 1 f fd ["_law_script", "_law_k"] (spPot K) := by
  refine F.ok sc_law_pot (fun vs H Q E h => ?_) (fun cdv A outer s H vs Q E hr h => ?_)
  · obtain ⟨L, ns, k, rfl, _⟩ := h
    rfl
  obtain ⟨L, ns, k, rfl, hS, k0, k1, q⟩ := h
  refine ⟨_, (pss_cons (ps_set (i := 2) sc_law_pot.nd rfl (Or.inl rfl) (pe_op op_add (pe_op op_mul pe_int (pv 1)) pe_int))
        (pss_cons (ps_if (pt_cmpR op_lt (pv 1) (pe_callB (kLen K rfl) rfl T.b_len bt_len (pa_cons (pv 0) pa_nil)) (nomark _))
        (pss_one (ps_set (i := 2) sc_law_pot.nd rfl (Or.inl rfl) (pe_callB call_abs rfl T.b_abs bt_abs (pa_cons (pe_ix (kIxL K rfl) (pv 0) (pv 1) (fun _ _ => rfl)) pa_nil))))
        pss_nil)
        (pss_one (ps_ret (pe_lst (pa_cons (pe_callB (call_max2 rfl) rfl T.b_max bt_max (pa_cons pe_int (pa_cons (pe_op op_sub (pv 2) (pe_op op_pow pe_int pe_int)) pa_nil))) (pa_cons (pe_op op_add (pe_op op_mod (pe_callTy call_int1 rfl T.b_int bt_int (pa_cons (pe_op op_add (pe_op op_add (pe_op op_mul (pe_op op_mod (pe_callTy call_int1 rfl T.b_int bt_int (pa_cons (pv 2) pa_nil)) pe_int) pe_int) (pe_op op_mul pe_int (pv 1))) pe_int) pa_nil)) pe_int) pe_int) pa_nil))))))), ?_⟩
  refine ⟨_, rfl, _, _, rfl, rfl, .inl (by decide), _, _, rfl, rfl, ?_⟩
  refine ⟨_, rfl, _, rfl, _, _, rfl, .inl hS, _, _, rfl, rfl, _, rfl, ?_⟩
  by_cases hk : k < (ns.map V.int).length
  · refine iteTd (by simpa using hk) ?_
    obtain ⟨x, hx, hm⟩ := atI_mem k0 hk
    obtain ⟨c, _, rfl⟩ := List.mem_map.mp hm
    refine ⟨_, rfl, _, rfl, _, _, _, _, rfl, rfl, hS, hx, c, rfl, ?_⟩
    refine ⟨_, rfl, _, _, rfl, rfl, ⟨by decide, by decide, by decide⟩, _, _, rfl, rfl, _, _, rfl, ?_⟩
    refine ⟨_, rfl, .inl ⟨_, rfl, _, _, rfl, rfl, (by decide : (0 : Int) < 2147483563), _, _, rfl, rfl, .inr (by decide), _, rfl, _, _, rfl, rfl, .inl (by decide), _, _, rfl, rfl, _, _, rfl, rfl, .inl ⟨_, rfl, _, _, rfl, rfl, (by decide : (0 : Int) < 2147483543), _, _, rfl, rfl, sz2, fun p hp => ?_⟩⟩⟩
    refine q _ _ (same_new hp _) hp ⟨_, _, upd_same, ?_, ?_, ?_⟩
    · split <;> omega
    · have := Int.emod_nonneg ((if c < 0 then -c else c) % 2147483563 * 48271 + 6043 * k + 173) (show (2147483543 : Int) ≠ 0 by decide)
      omega
    · have := Int.emod_lt_of_pos ((if c < 0 then -c else c) % 2147483563 * 48271 + 6043 * k + 173) (show (0 : Int) < 2147483543 by decide)
      omega
  · refine iteFd (by simpa using hk) ?_
    refine ⟨_, rfl, _, _, rfl, rfl, ⟨by decide, by decide, by decide⟩, _, _, rfl, rfl, _, _, rfl, ?_⟩
    refine ⟨_, rfl, .inl ⟨_, rfl, _, _, rfl, rfl, (by decide : (0 : Int) < 2147483563), _, _, rfl, rfl, .inr (by decide), _, rfl, _, _, rfl, rfl, .inl (by decide), _, _, rfl, rfl, _, _, rfl, rfl, .inl ⟨_, rfl, _, _, rfl, rfl, (by decide : (0 : Int) < 2147483543), _, _, rfl, rfl, sz2, fun p hp => ?_⟩⟩⟩
    refine q _ _ (same_new hp _) hp ⟨_, _, upd_same, ?_, ?_, ?_⟩
    · split <;> omega
    · have := Int.emod_nonneg ((233 * k + 83) % 2147483563 * 48271 + 6043 * k + 173) (show (2147483543 : Int) ≠ 0 by decide)
      omega
    · have := Int.emod_lt_of_pos ((233 * k + 83) % 2147483563 * 48271 + 6043 * k + 173) (show (0 : Int) < 2147483543 by decide)
      omega
abbrev s_law_term : Stmt := top 113
abbrev N_law_term : List Str := ["_law_pot_here", "_law_most", "_law_way", "_law_word", "_law_part", "_law_left", "_law_one", "_law_other", "_law_own_table", "_law_turn"]
theorem sc_law_term : FnScope N_law_term ["_law_pot_here", "_law_most"] (defScope s_law_term) := ⟨rfl, rfl, rfl, by decide +kernel, rfl, by decide +kernel, by decide +kernel⟩
theorem step_law_term {n : Nat} (F : Fun K "_law_term" "_law_term" s_law_term f fd) (T : Txt K mg aS a1 a2) (c__law_draw : C8.Cal P w K mg base 1 "_law_draw" spDraw []) (c__law_pick : C8.Cal P w K mg base 2 "_law_pick" spPick []) (c__law_term : C8.Cal P w K mg base (n + 3) "_law_term" (spTerm n) []) : FnOk P w K mg base CX0 (n + 4) f fd ["_law_pot_here", "_law_most"] (spTerm (n + 1)) := by
  refine F.ok sc_law_term (fun vs H Q E h => ?_) (fun cdv A outer s H vs Q E hr h => ?_)
  · obtain ⟨p, m, rfl, _⟩ := h
    rfl
  obtain ⟨p, m, rfl, p0, m1, mn, nn, q⟩ := h
  refine ⟨_, (pss_cons (ps_set (i := 2) sc_law_term.nd rfl (Or.inl rfl) (C8.pe_c c__law_draw hr (by omega) rfl (pa_cons (pv 0) (pa_cons pe_int pa_nil))))
        (pss_cons (ps_if (PW.pt (pw_or (pt_cmpR op_lt (pv 1) pe_int (nomark _)) (pw_or1 (pt_cmpR op_eq (pv 2) pe_int (nomark _)))))
        (pss_one (ps_ret pe_str))
        pss_nil)
        (pss_cons (ps_if (PW.pt (pw_or (pt_cmpR op_lt (pv 2) pe_int (nomark _)) (pw_or1 (pt_cmpR op_lt (pv 1) pe_int (nomark _)))))
        (pss_cons (ps_set (i := 3) sc_law_term.nd rfl (Or.inl rfl) (C8.pe_c c__law_pick hr (by omega) rfl (pa_cons (pv 0) (pa_cons (pe_lst (pa_cons pe_str (pa_cons pe_str (pa_cons pe_str (pa_cons pe_str (pa_cons pe_str (pa_cons pe_str pa_nil))))))) pa_nil))))
        (pss_cons (ps_set (i := 4) sc_law_term.nd rfl (Or.inl rfl) (C8.pe_c c__law_term hr (by omega) rfl (pa_cons (pv 0) (pa_cons (pe_op op_sub (pv 1) pe_int) pa_nil))))
        (pss_one (ps_ret (pe_ifExp (pt_cmpR op_eq (pv 3) pe_str (nomark _)) (pe_tup (pa_cons pe_str (pa_cons (C8.pe_c c__law_pick hr (by omega) rfl (pa_cons (pv 0) (pa_cons (pe_lst (pa_cons pe_str (pa_cons pe_str pa_nil))) pa_nil))) (pa_cons (pv 4) pa_nil)))) (pe_tup (pa_cons (pv 3) (pa_cons (pv 4) pa_nil))))))))
        pss_nil)
        (pss_cons (ps_set (i := 5) sc_law_term.nd rfl (Or.inl rfl) (pe_op op_add pe_int (C8.pe_c c__law_draw hr (by omega) rfl (pa_cons (pv 0) (pa_cons (pe_op op_sub (pv 1) pe_int) pa_nil)))))
        (pss_cons (ps_par (i := 6) (j := 7) rfl sc_law_term.nd rfl rfl (by decide) rfl rfl (pa_cons (C8.pe_c c__law_term hr (by omega) rfl (pa_cons (pv 0) (pa_cons (pv 5) pa_nil))) (pa_cons (C8.pe_c c__law_term hr (by omega) rfl (pa_cons (pv 0) (pa_cons (pe_op op_sub (pe_op op_sub (pv 1) pe_int) (pv 5)) pa_nil))) pa_nil)) rfl)
        (pss_cons (ps_set (i := 3) sc_law_term.nd rfl (Or.inl rfl) (C8.pe_c c__law_pick hr (by omega) rfl (pa_cons (pv 0) (pa_cons (pe_lst (pa_cons pe_str (pa_cons pe_str (pa_cons pe_str (pa_cons pe_str pa_nil))))) pa_nil))))
        (pss_cons (ps_if (pt_cmpR op_eq (pv 3) pe_str (nomark _))
        (pss_cons (ps_set (i := 8) sc_law_term.nd rfl (Or.inl rfl) (kJoin K rfl pe_str (pe_lc (own := [("_law_turn", 9)]) rfl sc_law_term.nd (pi_range1 rfl T.b_range (pa_cons pe_int pa_nil)) (blkOk_by (N := N_law_term) (sc := defScope s_law_term) (by decide +kernel)) (fun _ _ _ _ _ => (pg_name (i := 9) sc_law_term.nd rfl (Or.inl rfl))) (fun _ _ _ _ _ => pts_nil) (fun _ _ _ _ _ => (C8.pe_c c__law_pick hr (by omega) rfl (pa_cons (pv 0) (pa_cons (pe_lst (pa_cons pe_str (pa_cons pe_str pa_nil))) pa_nil)))))))
        (pss_one (ps_ret (pe_tup (pa_cons pe_str (pa_cons (C8.pe_c c__law_pick hr (by omega) rfl (pa_cons (pv 0) (pa_cons (pe_lst (pa_cons pe_str (pa_cons pe_str (pa_cons pe_str (pa_cons (pv 8) pa_nil))))) pa_nil))) (pa_cons (pv 6) (pa_cons (pv 7) pa_nil))))))))
        pss_nil)
        (pss_one (ps_ret (pe_tup (pa_cons (pv 3) (pa_cons (pv 6) (pa_cons (pv 7) pa_nil))))))))))))), ?_⟩
  refine ⟨_, rfl, p, _, rfl, p0, by decide, by decide, fun way H1 w0 w1 k1 p1 => ?_⟩
  have hIn : Q (.str "in") H1 := q _ .inn _ rfl (by show ((1 : Nat) : Int) ≤ m; omega) k1 p1
  refine ⟨_, rfl, _, _, rfl, rfl, _, rfl, ?_⟩
  by_cases c1 : m < 2
  · exact iteTd (by simpa using c1) (iteT hIn)
  refine iteFd (by simpa using c1) ⟨_, rfl, rfl, _, rfl, ?_⟩
  by_cases c1' : way = 0
  · exact iteTd (by rw [dec_int]; simpa using c1') hIn
  refine iteFd (by rw [dec_int]; simpa using c1') ?_
  have m2 : 2 ≤ m := by omega
  refine ⟨_, rfl, _, _, rfl, rfl, _, rfl, ?_⟩
  by_cases c2 : way < 7
  · refine iteTd (by simpa using c2) (iteT ?_)
    refine ⟨_, rfl, sz rfl, fun L hL => ⟨p, L, _, rfl, p1.same (same_new hL _), p1.ne hL, upd_same, by decide, by decide, fun x H2 hx k2 p2 => ?_⟩⟩
    refine ⟨_, rfl, _, rfl, _, _, rfl, rfl, p, _, rfl, p2, by omega, by omega, by omega, fun v t H3 ht hnt k3 p3 => ?_⟩
    have kk3 : Kp p H H3 := (k1.trans (kp_new hL _)).trans (k2.trans k3)
    refine ⟨_, rfl, ?_, _, rfl, ?_⟩
    · rcases w6 hx with ⟨w, rfl⟩ | rfl <;> rfl
    rcases w6 hx with ⟨w, rfl⟩ | rfl
    · refine iteFd (by cases w <;> decide +kernel) ?_
      refine ⟨_, rfl, _, rfl, sz rfl, fun T0 hT => ?_⟩
      exact q _ (.one w t) _ ⟨_, _, rfl, upd_same, ht.keep (Tups.of (same_new hT _))⟩ (by show ((t.nodes + 1 : Nat) : Int) ≤ m; omega) (kk3.trans (kp_new hT _)) (p3.same (same_new hT _))
    · refine iteTd (by decide +kernel) ?_
      refine ⟨_, rfl, sz rfl, fun L2 hL2 => ⟨p, L2, _, rfl, p3.same (same_new hL2 _), p3.ne hL2, upd_same, by decide, by decide, fun y H4 hy k4 p4 => ?_⟩⟩
      obtain ⟨b, rfl⟩ := w2 hy
      refine ⟨_, rfl, sz rfl, fun T0 hT => ?_⟩
      have tu : Tups H3 (upd H4 T0 (.tup [.str "late", .str (sgn b), v])) := (Tups.of (same_new hL2 _)).trans (((p3.same (same_new hL2 _)).tups k4).trans (Tups.of (same_new hT _)))
      exact q _ (.late b t) _ ⟨_, _, rfl, upd_same, ht.keep tu⟩ (by show ((t.nodes + 1 : Nat) : Int) ≤ m; omega) (kk3.trans ((kp_new hL2 _).trans (k4.trans (kp_new hT _)))) (p4.same (same_new hT _))
  refine iteFd (by simpa using c2) ⟨_, rfl, _, _, rfl, rfl, _, rfl, ?_⟩
  by_cases c3 : m < 3
  · refine iteTd (by simpa using c3) ?_
    refine ⟨_, rfl, sz rfl, fun L hL => ⟨p, L, _, rfl, p1.same (same_new hL _), p1.ne hL, upd_same, by decide, by decide, fun x H2 hx k2 p2 => ?_⟩⟩
    refine ⟨_, rfl, _, rfl, _, _, rfl, rfl, p, _, rfl, p2, by omega, by omega, by omega, fun v t H3 ht hnt k3 p3 => ?_⟩
    have kk3 : Kp p H H3 := (k1.trans (kp_new hL _)).trans (k2.trans k3)
    refine ⟨_, rfl, ?_, _, rfl, ?_⟩
    · rcases w6 hx with ⟨w, rfl⟩ | rfl <;> rfl
    rcases w6 hx with ⟨w, rfl⟩ | rfl
    · refine iteFd (by cases w <;> decide +kernel) ?_
      refine ⟨_, rfl, _, rfl, sz rfl, fun T0 hT => ?_⟩
      exact q _ (.one w t) _ ⟨_, _, rfl, upd_same, ht.keep (Tups.of (same_new hT _))⟩ (by show ((t.nodes + 1 : Nat) : Int) ≤ m; omega) (kk3.trans (kp_new hT _)) (p3.same (same_new hT _))
    · refine iteTd (by decide +kernel) ?_
      refine ⟨_, rfl, sz rfl, fun L2 hL2 => ⟨p, L2, _, rfl, p3.same (same_new hL2 _), p3.ne hL2, upd_same, by decide, by decide, fun y H4 hy k4 p4 => ?_⟩⟩
      obtain ⟨b, rfl⟩ := w2 hy
      refine ⟨_, rfl, sz rfl, fun T0 hT => ?_⟩
      have tu : Tups H3 (upd H4 T0 (.tup [.str "late", .str (sgn b), v])) := (Tups.of (same_new hL2 _)).trans (((p3.same (same_new hL2 _)).tups k4).trans (Tups.of (same_new hT _)))
      exact q _ (.late b t) _ ⟨_, _, rfl, upd_same, ht.keep tu⟩ (by show ((t.nodes + 1 : Nat) : Int) ≤ m; omega) (kk3.trans ((kp_new hL2 _).trans (k4.trans (kp_new hT _)))) (p4.same (same_new hT _))
  · refine iteFd (by simpa using c3) ?_
    refine ⟨_, rfl, _, rfl, _, _, rfl, rfl, p, _, rfl, p1, by omega, by omega, fun d H2 d0 d1 k2 p2 => ⟨_, _, rfl, rfl, ?_⟩⟩
    refine ⟨_, rfl, _, rfl, p, _, rfl, p2, by omega, by omega, by omega, fun v1 t1 H3 ht1 hn1 k3 p3 => ?_⟩
    refine ⟨_, rfl, _, rfl, _, _, rfl, rfl, _, rfl, _, _, rfl, rfl, p, _, rfl, p3, by omega, by omega, by omega, fun v2 t2 H4 ht2 hn2 k4 p4 => ⟨_, _, rfl, ?_⟩⟩
    have kk4 : Kp p H H4 := ((k1.trans k2).trans k3).trans k4
    have hn12 : (t1.nodes : Int) + t2.nodes + 1 ≤ m := by omega
    have ht1' := ht1.keep (p3.tups k4)
    refine ⟨_, rfl, sz rfl, fun L hL => ⟨p, L, _, rfl, p4.same (same_new hL _), p4.ne hL, upd_same, by decide, by decide, fun x H5 hx k5 p5 => ?_⟩⟩
    have tu5 : Tups H4 H5 := (Tups.of (same_new hL _)).trans ((p4.same (same_new hL _)).tups k5)
    have kk5 : Kp p H H5 := kk4.trans ((kp_new hL _).trans k5)
    refine ⟨_, rfl, ?_, _, rfl, ?_⟩
    · rcases w4 hx with rfl | rfl | rfl <;> rfl
    rcases w4 hx with rfl | rfl | rfl
    · refine iteTd (by decide +kernel) ?_
      refine ⟨⟨_, rfl⟩, 4, rfl, by decide, by decide, fun D hD => lc_it walk_range (fun i H' => ∃ bs : List Bool, bs.length = i ∧ H' D = some (.lst (bs.map vs)) ∧ Kp p H5 H' ∧ Pot p H') ⟨[], rfl, upd_same, kp_new hD _, p5.same (same_new hD _)⟩ (fun _ _ _ _ => trivial) ?_ ?_⟩
      · rintro i x H6 H7 hi ⟨bs, hbs, hd, kk, pp⟩ ⟨rfl, rfl⟩
        have hi4 : i < 4 := hi
        refine ⟨rfl, tyI ⟨_, rfl, sz rfl, fun L hL => ⟨p, L, _, rfl, pp.same (same_new hL _), pp.ne hL, upd_same, by decide, by decide, fun y H8 hy k8 p8 => ?_⟩⟩⟩
        obtain ⟨b, rfl⟩ := w2 hy
        refine ⟨_, k8 _ _ (p5.ne hD) (same_new hL _ _ _ hd), ?_, bs ++ [b], by simp [hbs], by rw [upd_same]; simp, kp_at (kk.trans ((kp_new hL _).trans k8)) hD, pot_at p8 (p5.ne hD)⟩
        rw [List.length_map]
        exact Nat.lt_of_lt_of_le (show bs.length < 100000 by omega) (by decide)
      · rintro H6 ⟨bs, hbs, hd, kk, pp⟩
        have hb4 : bs.length = 4 := hbs
        refine joinEnd hd (by omega) ?_
        refine ⟨_, rfl, _, rfl, sz rfl, fun L hL => ⟨p, L, _, rfl, pp.same (same_new hL _), pp.ne hL, upd_same, Nat.zero_lt_succ _, (by simp), fun y H7 hy k7 p7 => ?_⟩⟩
        obtain ⟨b1, b2, b3, b4, rfl⟩ := tb4 hb4 hy
        refine ⟨_, rfl, _, rfl, sz rfl, fun T0 hT => ?_⟩
        have tu : Tups H4 (upd H7 T0 (.tup [.str "by", .str (tx [b1, b2, b3, b4]), v1, v2])) := tu5.trans ((p5.tups kk).trans ((Tups.of (same_new hL _)).trans (((pp.same (same_new hL _)).tups k7).trans (Tups.of (same_new hT _)))))
        exact q _ (.byy b1 b2 b3 b4 t1 t2) _ ⟨_, _, _, rfl, upd_same, ht1'.keep tu, ht2.keep tu⟩ (by show ((t1.nodes + t2.nodes + 1 : Nat) : Int) ≤ m; omega) (kk5.trans (kk.trans ((kp_new hL _).trans (k7.trans (kp_new hT _))))) (p7.same (same_new hT _))
    · refine iteFd (by decide +kernel) ?_
      refine ⟨_, rfl, _, rfl, _, rfl, sz rfl, fun T0 hT => ?_⟩
      have tu : Tups H4 (upd H5 T0 (.tup [.str "keep", v1, v2])) := tu5.trans (Tups.of (same_new hT _))
      exact q _ (.keep t1 t2) _ ⟨_, _, _, rfl, upd_same, ht1'.keep tu, ht2.keep tu⟩ (by show ((t1.nodes + t2.nodes + 1 : Nat) : Int) ≤ m; omega) (kk5.trans (kp_new hT _)) (p5.same (same_new hT _))
    · refine iteFd (by decide +kernel) ?_
      refine ⟨_, rfl, _, rfl, _, rfl, sz rfl, fun T0 hT => ?_⟩
      have tu : Tups H4 (upd H5 T0 (.tup [.str "then", v1, v2])) := tu5.trans (Tups.of (same_new hT _))
      exact q _ (.thn t1 t2) _ ⟨_, _, _, rfl, upd_same, ht1'.keep tu, ht2.keep tu⟩ (by show ((t1.nodes + t2.nodes + 1 : Nat) : Int) ≤ m; omega) (kk5.trans (kp_new hT _)) (p5.same (same_new hT _))
theorem ok_law_term (F : Fun K "_law_term" "_law_term" s_law_term f fd) (T : Txt K mg aS a1 a2) (hm : mg "_law_term" = some (.ref f)) (hk : PySem.W.keepIn K (.ref f) = true) (hb : Binds K fd ["_law_pot_here", "_law_most"] []) (c__law_draw : C8.Cal P w K mg base 1 "_law_draw" spDraw []) (c__law_pick : C8.Cal P w K mg base 2 "_law_pick" spPick []) : ∀ n, C8.Cal P w K mg base (n + 3) "_law_term" (spTerm n) []
  | 0 => ⟨f, fd, _, [], ⟨by rintro vs H Q E ⟨p, m, rfl, _⟩; rfl, by
      rintro A outer s H args us vs Q E hr e0 hb r ⟨p, m, rfl, _, h1, h2, _⟩
      omega⟩, hm, hk, hb, .nil⟩
  | n + 1 => ⟨f, fd, _, [], step_law_term F T c__law_draw c__law_pick (ok_law_term F T hm hk hb c__law_draw c__law_pick n), hm, hk, hb, .nil⟩
abbrev s_law_stream : Stmt := top 116
abbrev N_law_stream : List Str := ["_law_pot_here", "_law_most", "_law_turn"]
theorem sc_law_stream : FnScope N_law_stream ["_law_pot_here", "_law_most"] (defScope s_law_stream) := ⟨rfl, rfl, rfl, by decide +kernel, rfl, by decide +kernel, by decide +kernel⟩
theorem ok_law_stream (F : Fun K "_law_stream" "_law_stream" s_law_stream f fd) (T : Txt K mg aS a1 a2) (c__law_draw : C8.Cal P w K mg base 1 "_law_draw" spDraw []) (c__law_pick : C8.Cal P w K mg base 2 "_law_pick" spPick []) : FnOk P w K mg base CX0 3 f fd ["_law_pot_here", "_law_most"] spStream := by
  refine F.ok sc_law_stream (fun vs H Q E h => ?_) (fun cdv A outer s H vs Q E hr h => ?_)
  · obtain ⟨p, m, rfl, _⟩ := h
    rfl
  obtain ⟨p, m, rfl, p0, m0, m1, q⟩ := h
  refine ⟨_, (pss_one (ps_ret (kJoin K rfl pe_str (pe_lc (own := [("_law_turn", 2)]) rfl sc_law_stream.nd (pi_range1 rfl T.b_range (pa_cons (C8.pe_c c__law_draw hr (by decide) rfl (pa_cons (pv 0) (pa_cons (pe_op op_add (pv 1) pe_int) pa_nil))) pa_nil)) (blkOk_by (N := N_law_stream) (sc := defScope s_law_stream) (by decide +kernel)) (fun _ _ _ _ _ => (pg_name (i := 2) sc_law_stream.nd rfl (Or.inl rfl))) (fun _ _ _ _ _ => pts_nil) (fun _ _ _ _ _ => (C8.pe_c c__law_pick hr (by decide) rfl (pa_cons (pv 0) (pa_cons (pe_lst (pa_cons pe_str (pa_cons pe_str pa_nil))) pa_nil)))))))), ?_⟩
  refine ⟨⟨_, rfl⟩, _, rfl, _, rfl, _, _, rfl, rfl, p, _, rfl, p0, by omega, by omega, fun d H5 d0 d1 k5 p5 => ?_⟩
  refine ⟨d, rfl, by omega, by omega, fun D hD => lc_it walk_range (fun i H' => ∃ bs : List Bool, bs.length = i ∧ H' D = some (.lst (bs.map vs)) ∧ Kp p H5 H' ∧ Pot p H') ⟨[], rfl, upd_same, kp_new hD _, p5.same (same_new hD _)⟩ (fun _ _ _ _ => trivial) ?_ ?_⟩
  · rintro i x H6 H7 hi ⟨bs, hbs, hd, kk, pp⟩ ⟨rfl, rfl⟩
    refine ⟨rfl, tyI ⟨_, rfl, sz rfl, fun L hL => ⟨p, L, _, rfl, pp.same (same_new hL _), pp.ne hL, upd_same, by decide, by decide, fun y H8 hy k8 p8 => ?_⟩⟩⟩
    obtain ⟨b, rfl⟩ := w2 hy
    refine ⟨_, k8 _ _ (p5.ne hD) (same_new hL _ _ _ hd), ?_, bs ++ [b], by simp [hbs], by rw [upd_same]; simp, kp_at (kk.trans ((kp_new hL _).trans k8)) hD, pot_at p8 (p5.ne hD)⟩
    rw [List.length_map]
    exact Nat.lt_of_lt_of_le (show bs.length < 100000 by omega) (by decide)
  · rintro H6 ⟨bs, hbs, hd, kk, pp⟩
    exact joinEnd hd (by omega) (q _ _ (by omega) (k5.trans kk) pp)
end
end FY


set_option Elab.async false
set_option linter.all false
set_option maxRecDepth 100000
set_option maxHeartbeats 4000000
namespace FY
open PySem L2 FYR
/-! ## rows, standings, stations -/
structure Rw where
  gives : List (List Bool)
  goal : Nat
  ticks : Nat
inductive Rd where
  | one | two | both
def Rd.s : Rd → Str | .one => "1" | .two => "2" | .both => "12"
def Rd.many : Rd → Nat | .both => 4 | _ => 2
theorem Rd.many_le (r : Rd) : r.many ≤ 100000 := by cases r <;> decide
structure Sg where
  reads : Rd
  rows : List Rw
structure Stn where
  ins : Nat
  outs : Nat
  stgs : List Sg
def Rw.ok (r : Rw) (outs many : Nat) : Prop := r.gives.length = outs ∧ (∀ g ∈ r.gives, g.length ≤ 2) ∧ r.goal < many ∧ 1 ≤ r.ticks ∧ r.ticks ≤ 9
def Sg.ok (s : Sg) (ins outs many : Nat) : Prop := (s.reads = .one ∨ ins = 2) ∧ s.rows.length = s.reads.many ∧ ∀ r ∈ s.rows, r.ok outs many
structure Stn.ok (t : Stn) : Prop where
  i1 : 1 ≤ t.ins
  i2 : t.ins ≤ 2
  o1 : 1 ≤ t.outs
  o2 : t.outs ≤ 2
  m1 : 1 ≤ t.stgs.length
  m2 : t.stgs.length ≤ 4
  sg : ∀ s ∈ t.stgs, s.ok t.ins t.outs t.stgs.length
def RwA (H : Hp) (v : V) (r : Rw) : Prop := ∃ a g, v = .ref a ∧ H a = some (.tup [.ref g, .int r.goal, .int r.ticks]) ∧ H g = some (.tup (r.gives.map fun b => V.str (tx b)))
theorem RwA.keep {H H' : Hp} (k : Tups H H') {v : V} {r : Rw} (h : RwA H v r) : RwA H' v r := by
  obtain ⟨a, g, e, h1, h2⟩ := h
  exact ⟨a, g, e, k _ _ h1, k _ _ h2⟩
theorem rwA_all {H H' : Hp} (k : Tups H H') : ∀ {ws : List V} {rs : List Rw}, Paired (RwA H) ws rs → Paired (RwA H') ws rs
  | _, _, .nil => .nil
  | _, _, .cons r q => .cons (r.keep k) (rwA_all k q)
/-- a standing as it is told: its rows a list -/
def ToldA (H : Hp) (v : V) (s : Sg) : Prop := ∃ a q ws, v = .ref a ∧ H a = some (.tup [.str s.reads.s, .ref q]) ∧ H q = some (.lst ws) ∧ Paired (RwA H) ws s.rows
/-- a standing as it is kept: its rows a tuple -/
def SgA (H : Hp) (v : V) (s : Sg) : Prop := ∃ a q ws, v = .ref a ∧ H a = some (.tup [.str s.reads.s, .ref q]) ∧ H q = some (.tup ws) ∧ Paired (RwA H) ws s.rows
theorem SgA.keep {H H' : Hp} (k : Tups H H') {v : V} {s : Sg} (h : SgA H v s) : SgA H' v s := by
  obtain ⟨a, q, ws, e, h1, h2, p⟩ := h
  exact ⟨a, q, ws, e, k _ _ h1, k _ _ h2, rwA_all k p⟩
theorem ToldA.same {H H' : Hp} (k : Same H H') {v : V} {s : Sg} (h : ToldA H v s) : ToldA H' v s := by
  obtain ⟨a, q, ws, e, h1, h2, p⟩ := h
  exact ⟨a, q, ws, e, k _ _ h1, k _ _ h2, rwA_all (Tups.of k) p⟩
def spIsInt : Sp := fun vs H Q _ => ∃ n, vs = [.int n] ∧ Q (.bl true) H
def spIsCount : Sp := fun vs H Q _ => ∃ n, vs = [.int n] ∧ Q (.bl (decide (0 ≤ n))) H
def spIsBelow : Sp := fun vs H Q _ => ∃ n m, vs = [.int n, .int m] ∧ 0 ≤ n ∧ Q (.bl (decide (n < m))) H
def spIsList : Sp := fun vs H Q _ => ∃ L xs, vs = [.ref L] ∧ H L = some (.lst xs) ∧ ∀ H', Same H H' → Q (.bl true) H'
def spIsRow : Sp := fun vs H Q _ => ∃ (v : V) (r : Rw) (outs many : Nat), vs = [v, .int outs, .int many] ∧ RwA H v r ∧ r.ok outs many ∧ outs ≤ 2 ∧ ∀ H', Same H H' → Q (.bl true) H'
def spAreRead : Sp := fun vs H Q _ => ∃ (r : Rd) (ins : Nat), vs = [.str r.s, .int ins] ∧ (r = .one ∨ ins = 2) ∧ Q (.bl true) H
def spIsTold : Sp := fun vs H Q _ => ∃ (v : V) (s : Sg) (ins outs many : Nat), vs = [v, .int ins, .int outs, .int many] ∧ ToldA H v s ∧ s.ok ins outs many ∧ outs ≤ 2 ∧ ∀ H', Same H H' → Q (.bl true) H'
theorem ty_int {K : PySem.W.Frag} {H : Hp} (n : Int) : TyX K H (.int n) (.type "int") := .base (.int n)
theorem kii {K : PySem.W.Frag} : PySem.W.kitOne K (.type "int") (.type "int") = some true := kit_ty (by decide +kernel)
theorem kib {K : PySem.W.Frag} : PySem.W.kitOne K (.type "int") (.type "bool") = some false := kit_ty (by decide +kernel)
theorem ty_lst {K : PySem.W.Frag} {H : Hp} {a : Addr} {xs : List V} (h : H a = some (.lst xs)) : TyX K H (.ref a) (.type "list") := .base (.lst h)
section
variable {P : Program} {w : World} {K : PySem.W.Frag} {mg : Str → Option Value} {base : Heap} {aS a1 a2 : Addr} {f : Addr} {fd : FuncData}
abbrev s_is_integer : Stmt := top 23
abbrev N_is_integer : List Str := ["value"]
theorem sc_is_integer : FnScope N_is_integer ["value"] (defScope s_is_integer) := ⟨rfl, rfl, rfl, by decide +kernel, rfl, by decide +kernel, by decide +kernel⟩
theorem ok_is_integer (F : Fun K "is_integer" "is_integer" s_is_integer f fd) (T : Txt K mg aS a1 a2) : FnOk P w K mg base CX0 1 f fd ["value"] spIsInt := by
  refine F.ok sc_is_integer (fun vs H Q E h => ?_) (fun cdv A outer s H vs Q E hr h => ?_)
  · obtain ⟨b, rfl, _⟩ := h
    rfl
  obtain ⟨n, rfl, q⟩ := h
  refine ⟨_, (pss_one (ps_ret (pe_and (pe_callB (kIsi K rfl) rfl T.b_isinstance bt_isinstance (pa_cons (pv 0) (pa_cons (pTy rfl T.b_int bt_int) pa_nil))) (pe_one (pe_not (pe_callB (kIsi K rfl) rfl T.b_isinstance bt_isinstance (pa_cons (pv 0) (pa_cons (pTy rfl T.b_bool bt_bool) pa_nil)))))))), ?_⟩
  exact ⟨_, rfl, _, _, _, _, _, rfl, .ty _, ty_int _, kii, _, rfl, iteT ⟨_, rfl, _, _, _, _, _, rfl, .ty _, ty_int _, kib, _, rfl, q⟩⟩
abbrev s_is_count : Stmt := top 24
abbrev N_is_count : List Str := ["value"]
theorem sc_is_count : FnScope N_is_count ["value"] (defScope s_is_count) := ⟨rfl, rfl, rfl, by decide +kernel, rfl, by decide +kernel, by decide +kernel⟩
theorem ok_is_count (F : Fun K "is_count" "is_count" s_is_count f fd) (T : Txt K mg aS a1 a2) (c_is_integer : C8.Cal P w K mg base 1 "is_integer" spIsInt []) : FnOk P w K mg base CX0 2 f fd ["value"] spIsCount := by
  refine F.ok sc_is_count (fun vs H Q E h => ?_) (fun cdv A outer s H vs Q E hr h => ?_)
  · obtain ⟨b, rfl, _⟩ := h
    rfl
  obtain ⟨n, rfl, q⟩ := h
  refine ⟨_, (pss_one (ps_ret (pe_and (C8.pe_c c_is_integer hr (by decide) rfl (pa_cons (pv 0) pa_nil)) (pe_one (pe_cmpR op_ge (pv 0) pe_int (nomark _)))))), ?_⟩
  exact ⟨_, rfl, n, rfl, _, rfl, iteT ⟨_, rfl, _, _, rfl, rfl, q⟩⟩
abbrev s_is_below : Stmt := top 25
abbrev N_is_below : List Str := ["value", "limit"]
theorem sc_is_below : FnScope N_is_below ["value", "limit"] (defScope s_is_below) := ⟨rfl, rfl, rfl, by decide +kernel, rfl, by decide +kernel, by decide +kernel⟩
theorem ok_is_below (F : Fun K "is_below" "is_below" s_is_below f fd) (T : Txt K mg aS a1 a2) (c_is_count : C8.Cal P w K mg base 2 "is_count" spIsCount []) : FnOk P w K mg base CX0 3 f fd ["value", "limit"] spIsBelow := by
  refine F.ok sc_is_below (fun vs H Q E h => ?_) (fun cdv A outer s H vs Q E hr h => ?_)
  · obtain ⟨b, m, rfl, _⟩ := h
    rfl
  obtain ⟨n, m, rfl, h0, q⟩ := h
  refine ⟨_, (pss_one (ps_ret (pe_and (C8.pe_c c_is_count hr (by decide) rfl (pa_cons (pv 0) pa_nil)) (pe_one (pe_cmpR op_lt (pv 0) (pv 1) (nomark _)))))), ?_⟩
  exact ⟨_, rfl, n, rfl, _, rfl, iteTd (by simpa using h0) ⟨_, rfl, _, rfl, _, _, rfl, rfl, q⟩⟩
abbrev s_is_list : Stmt := top 28
abbrev N_is_list : List Str := ["value"]
theorem sc_is_list : FnScope N_is_list ["value"] (defScope s_is_list) := ⟨rfl, rfl, rfl, by decide +kernel, rfl, by decide +kernel, by decide +kernel⟩
theorem ok_is_list (F : Fun K "is_list" "is_list" s_is_list f fd) (T : Txt K mg aS a1 a2) : FnOk P w K mg base CX0 1 f fd ["value"] spIsList := by
  refine F.ok sc_is_list (fun vs H Q E h => ?_) (fun cdv A outer s H vs Q E hr h => ?_)
  · obtain ⟨L, xs, rfl, _⟩ := h
    rfl
  obtain ⟨L, xs, rfl, hL, q⟩ := h
  refine ⟨_, (pss_one (ps_ret (pe_callB (kIsiT K rfl) rfl T.b_isinstance bt_isinstance (pa_cons (pv 0) (pa_cons (pe_tup (pa_cons (pTy rfl T.b_list bt_list) (pa_cons (pTy rfl T.b_tuple bt_tuple) pa_nil))) pa_nil))))), ?_⟩
  refine ⟨_, rfl, sz rfl, fun p hp => ⟨_, p, _, _, _, true, rfl, upd_same, .cons (.ty _) (.cons (.ty _) .nil), ty_lst (same_new hp _ _ _ hL), ?_, q _ (same_new hp _)⟩⟩
  exact kitAny_cons (b := true) (kit_ty (by decide +kernel)) (fun z => nomatch z) (fun _ => rfl)
abbrev s_is_row : Stmt := top 36
abbrev N_is_row : List Str := ["value", "outs", "many", "text"]
theorem sc_is_row : FnScope N_is_row ["value", "outs", "many"] (defScope s_is_row) := ⟨rfl, rfl, rfl, by decide +kernel, rfl, by decide +kernel, by decide +kernel⟩
theorem ok_is_row (F : Fun K "is_row" "is_row" s_is_row f fd) (T : Txt K mg aS a1 a2) (c_is_integer : C8.Cal P w K mg base 1 "is_integer" spIsInt []) (c_is_text_of : C8.Cal P w K mg base 2 "is_text_of" spIsTextOf []) (c_is_below : C8.Cal P w K mg base 3 "is_below" spIsBelow []) : FnOk P w K mg base CX0 4 f fd ["value", "outs", "many"] spIsRow := by
  refine F.ok sc_is_row (fun vs H Q E h => ?_) (fun cdv A outer s H vs Q E hr h => ?_)
  · obtain ⟨v, r, o, m, rfl, _⟩ := h
    rfl
  obtain ⟨v, r, outs, many, rfl, ⟨a, g, rfl, ha, hg⟩, ⟨r1, r2, r3, r4, r5⟩, ho2, q⟩ := h
  refine ⟨_, (pss_cons (ps_if (PW.pt (pw_or (pt_not (pt_val (pe_callB (kIsi K rfl) rfl T.b_isinstance bt_isinstance (pa_cons (pv 0) (pa_cons (pTy rfl T.b_tuple bt_tuple) pa_nil))))) (pw_or (pt_cmpR op_ne (pe_callB (kLen K rfl) rfl T.b_len bt_len (pa_cons (pv 0) pa_nil)) pe_int (nomark _)) (pw_or (pt_not (pt_val (pe_callB (kIsi K rfl) rfl T.b_isinstance bt_isinstance (pa_cons (pe_ix (kIxT K rfl) (pv 0) pe_int (fun _ _ => rfl)) (pa_cons (pTy rfl T.b_tuple bt_tuple) pa_nil))))) (pw_or1 (pt_cmpR op_ne (pe_callB (kLen K rfl) rfl T.b_len bt_len (pa_cons (pe_ix (kIxT K rfl) (pv 0) pe_int (fun _ _ => rfl)) pa_nil)) (pv 1) (nomark _)))))))
        (pss_one (ps_ret pe_bl))
        pss_nil)
        (pss_cons (ps_if (PW.pt (pw_or (pt_not (pt_val (pe_callB (kAll K rfl rfl) rfl T.b_all bt_all (pa_cons (pe_lc (own := [("text", 3)]) rfl sc_is_row.nd (kTup K rfl (pe_ix (kIxT K rfl) (pv 0) pe_int (fun _ _ => rfl))) (blkOk_by (N := N_is_row) (sc := defScope s_is_row) (by decide +kernel)) (fun _ _ _ _ _ => (pg_name (i := 3) sc_is_row.nd rfl (Or.inl rfl))) (fun _ _ _ _ _ => pts_nil) (fun _ _ _ _ _ => (C8.pe_c c_is_text_of hr (by decide) rfl (pa_cons (pv 3) (pa_cons (C8.pe_gc rfl T.g_MOST_GIVEN) pa_nil))))) pa_nil)))) (pw_or1 (pt_not (pt_val (C8.pe_c c_is_below hr (by decide) rfl (pa_cons (pe_ix (kIxT K rfl) (pv 0) pe_int (fun _ _ => rfl)) (pa_cons (pv 2) pa_nil))))))))
        (pss_one (ps_ret pe_bl))
        pss_nil)
        (pss_one (ps_ret (pe_and (C8.pe_c c_is_integer hr (by decide) rfl (pa_cons (pe_ix (kIxT K rfl) (pv 0) pe_int (fun _ _ => rfl)) pa_nil)) (pe_one (pe_chain op_le op_le pe_int (pe_ix (kIxT K rfl) (pv 0) pe_int (fun _ _ => rfl)) (C8.pe_gc rfl T.g_MOST_TICKS)))))))), ?_⟩
  refine ⟨_, rfl, _, _, _, _, _, rfl, .ty _, ty_tup ha, ktt, _, rfl, iteF ⟨_, rfl, _, _, rfl, .inr (SqT.of ha), rfl, _, rfl, iteFd (by rw [dec_int]; rfl) ⟨_, rfl, _, _, _, _, rfl, rfl, SqT.of ha, rfl, _, _, _, _, _, rfl, .ty _, ty_tup hg, ktt, _, rfl, iteF ⟨_, rfl, _, _, _, _, rfl, rfl, SqT.of ha, rfl, _, _, rfl, .inr (SqT.of hg), _, rfl, rfl, _, rfl, iteFd (by rw [dec_int, List.length_map, r1]; simp) ?_⟩⟩⟩⟩
  refine ⟨_, rfl, _, _, _, _, rfl, rfl, SqT.of ha, rfl, _, rfl, ⟨_, SqT.of hg⟩, fun D hD => lc_it walk_tup (fun i H' => Same H H' ∧ H' D = some (.lst (List.replicate i (.bl true)))) ⟨same_new hD _, upd_same⟩ (fun i H' _ z => SqT.of (z.1 _ _ hg)) ?_ ?_⟩
  · rintro i x H1 H2 hi ⟨sm, hd⟩ ⟨rfl, hx⟩
    obtain ⟨b, hb, rfl⟩ := List.getElem?_map_some hx
    have hb2 := r2 b (List.mem_of_getElem? hb)
    have hil := lt_len hb
    refine ⟨rfl, tyI ⟨_, rfl, b, _, rfl, by omega, fun H3 s3 => ?_⟩⟩
    rw [decide_eq_true (by omega)]
    refine ⟨_, s3 _ _ hd, ?_, same_at (sm.trans' s3) hD, ?_⟩
    · rw [List.length_replicate]
      exact Nat.lt_of_lt_of_le (show i < 100000 by omega) (by decide)
    · rw [upd_same, List.replicate_succ']
  · rintro H1 ⟨sm, hd⟩
    refine ⟨_, List.replicate _ true, rfl, SqL.of (by rw [hd, List.map_replicate]), _, rfl, ?_⟩
    rw [show ∀ m, (List.replicate m true).all id = true from fun m => by simp]
    have ha1 := sm _ _ ha
    refine iteF ⟨_, rfl, _, _, _, _, rfl, rfl, SqT.of ha1, rfl, _, rfl, _, _, rfl, by omega, _, rfl, ?_⟩
    rw [decide_eq_true (by omega)]
    refine iteF ⟨_, rfl, _, _, _, _, rfl, rfl, SqT.of ha1, rfl, _, rfl, _, rfl, iteT ?_⟩
    refine ⟨_, rfl, _, _, _, _, rfl, rfl, SqT.of ha1, rfl, _, _, rfl, rfl, _, rfl, iteTd (by simp; omega) ⟨_, _, rfl, rfl, ?_⟩⟩
    show Q (.bl (decide ((r.ticks : Int) ≤ 9))) H1
    rw [decide_eq_true (by omega)]
    exact q _ sm
end
/-- what the text says of LINES -/
structure Lin (K : PySem.W.Frag) (w : World) (mg : Str → Option Value) (aL : Addr) : Prop where
  g_LINES : ∃ u, mg "LINES" = some u ∧ RelV (.ref aL) u
  kd : ∃ es n, KDict K w aL es n
  at_ : ∀ r : Rd, ∃ u, PySem.W.nsIn K aL r.s = some (some u)
def rInL (K : PySem.W.Frag) (aL : Addr) : R2 := fun x y H Q => ∃ (z : Str) (r : Option Value), x = .str z ∧ y = .ref aL ∧ PySem.W.nsIn K aL z = some r ∧ Q (.bl r.isSome) H
theorem kInL {X : Cx} (K : PySem.W.Frag) (hK : X.K = K) {w : World} {mg : Str → Option Value} {aL : Addr} (hw : X.w = w) (L : Lin K w mg aL) : OpR X (compareOp .In) (rInL K aL) := by
  subst hK
  subst hw
  obtain ⟨es, n, kd⟩ := L.kd
  exact op_in_kd kd
section
variable {P : Program} {w : World} {K : PySem.W.Frag} {mg : Str → Option Value} {base : Heap} {aS a1 a2 aL : Addr} {f : Addr} {fd : FuncData}
abbrev s_are_read : Stmt := top 37
abbrev N_are_read : List Str := ["value", "ins"]
theorem sc_are_read : FnScope N_are_read ["value", "ins"] (defScope s_are_read) := ⟨rfl, rfl, rfl, by decide +kernel, rfl, by decide +kernel, by decide +kernel⟩
theorem ok_are_read (F : Fun K "are_read" "are_read" s_are_read f fd) (T : Txt K mg aS a1 a2) (L : Lin K w mg aL) : FnOk P w K mg base CX0 1 f fd ["value", "ins"] spAreRead := by
  refine F.ok sc_are_read (fun vs H Q E h => ?_) (fun cdv A outer s H vs Q E hr h => ?_)
  · obtain ⟨r, i, rfl, _⟩ := h
    rfl
  obtain ⟨r, ins, rfl, ho, q⟩ := h
  refine ⟨_, (pss_one (ps_ret (pe_and (pe_callB (kIsi K rfl) rfl T.b_isinstance bt_isinstance (pa_cons (pv 0) (pa_cons (pTy rfl T.b_str bt_str) pa_nil))) (pe_and (pe_cmpR (kInL K rfl rfl L) (pv 0) (C8.pe_gc rfl L.g_LINES) rfl) (pe_one (pe_or (pe_cmpR op_eq (pv 0) pe_str (nomark _)) (pe_one (pe_cmpR op_eq (pv 1) pe_int (nomark _))))))))), ?_⟩
  obtain ⟨u, hu⟩ := L.at_ r
  refine ⟨_, rfl, _, _, _, _, _, rfl, .ty _, ty_str _, kss, _, rfl, iteT ⟨_, rfl, _, _, rfl, rfl, hu, _, rfl, iteT ⟨_, rfl, rfl, _, rfl, ?_⟩⟩⟩
  rcases ho with rfl | rfl
  · refine iteTd (by decide +kernel) ?_
    exact q
  · cases r with
    | one =>
      refine iteTd (by decide +kernel) ?_
      exact q
    | two => exact iteFd (by decide +kernel) ⟨_, rfl, rfl, q⟩
    | both => exact iteFd (by decide +kernel) ⟨_, rfl, rfl, q⟩
abbrev s_is_standing_told : Stmt := top 38
abbrev N_is_standing_told : List Str := ["value", "ins", "outs", "many", "many_rows", "row"]
theorem sc_is_standing_told : FnScope N_is_standing_told ["value", "ins", "outs", "many"] (defScope s_is_standing_told) := ⟨rfl, rfl, rfl, by decide +kernel, rfl, by decide +kernel, by decide +kernel⟩
theorem ok_is_standing_told (F : Fun K "is_standing_told" "is_standing_told" s_is_standing_told f fd) (T : Txt K mg aS a1 a2) (c_are_read : C8.Cal P w K mg base 1 "are_read" spAreRead []) (c_is_list : C8.Cal P w K mg base 1 "is_list" spIsList []) (c_is_row : C8.Cal P w K mg base 4 "is_row" spIsRow []) : FnOk P w K mg base CX0 5 f fd ["value", "ins", "outs", "many"] spIsTold := by
  refine F.ok sc_is_standing_told (fun vs H Q E h => ?_) (fun cdv A outer s H vs Q E hr h => ?_)
  · obtain ⟨v, r, i, o, m, rfl, _⟩ := h
    rfl
  obtain ⟨v, sg, ins, outs, many, rfl, ⟨a, l, ws, rfl, ha, hl, pr⟩, ⟨o1, o2, o3⟩, ho2, q⟩ := h
  refine ⟨_, (pss_cons (ps_if (PW.pt (pw_or (pt_not (pt_val (pe_callB (kIsi K rfl) rfl T.b_isinstance bt_isinstance (pa_cons (pv 0) (pa_cons (pTy rfl T.b_tuple bt_tuple) pa_nil))))) (pw_or (pt_cmpR op_ne (pe_callB (kLen K rfl) rfl T.b_len bt_len (pa_cons (pv 0) pa_nil)) pe_int (nomark _)) (pw_or (pt_not (pt_val (C8.pe_c c_are_read hr (by decide) rfl (pa_cons (pe_ix (kIxT K rfl) (pv 0) pe_int (fun _ _ => rfl)) (pa_cons (pv 1) pa_nil))))) (pw_or1 (pt_not (pt_val (C8.pe_c c_is_list hr (by decide) rfl (pa_cons (pe_ix (kIxT K rfl) (pv 0) pe_int (fun _ _ => rfl)) pa_nil)))))))))
        (pss_one (ps_ret pe_bl))
        pss_nil)
        (pss_cons (ps_set (i := 4) sc_is_standing_told.nd rfl (Or.inl rfl) (pe_ifExp (pt_cmpR op_eq (pe_ix (kIxT K rfl) (pv 0) pe_int (fun _ _ => rfl)) pe_str (nomark _)) pe_int pe_int))
        (pss_one (ps_ret (pe_and (pe_cmpR op_eq (pe_callB (kLen K rfl) rfl T.b_len bt_len (pa_cons (pe_ix (kIxT K rfl) (pv 0) pe_int (fun _ _ => rfl)) pa_nil)) (pv 4) (nomark _)) (pe_one (pe_callB (kAll K rfl rfl) rfl T.b_all bt_all (pa_cons (pe_lc (own := [("row", 5)]) rfl sc_is_standing_told.nd (kList K rfl (pe_ix (kIxT K rfl) (pv 0) pe_int (fun _ _ => rfl))) (blkOk_by (N := N_is_standing_told) (sc := defScope s_is_standing_told) (by decide +kernel)) (fun _ _ _ _ _ => (pg_name (i := 5) sc_is_standing_told.nd rfl (Or.inl rfl))) (fun _ _ _ _ _ => pts_nil) (fun _ _ _ _ _ => (C8.pe_c c_is_row hr (by decide) rfl (pa_cons (pv 5) (pa_cons (pv 2) (pa_cons (pv 3) pa_nil)))))) pa_nil)))))))), ?_⟩
  refine ⟨_, rfl, _, _, _, _, _, rfl, .ty _, ty_tup ha, ktt, _, rfl, iteF ⟨_, rfl, _, _, rfl, .inr (SqT.of ha), rfl, _, rfl, iteFd (by rw [dec_int]; rfl) ⟨_, rfl, _, _, _, _, rfl, rfl, SqT.of ha, rfl, _, rfl, sg.reads, ins, rfl, o1, _, rfl, iteF ⟨_, rfl, _, _, _, _, rfl, rfl, SqT.of ha, rfl, l, _, rfl, hl, fun H1 s1 => ⟨_, rfl, iteF ?_⟩⟩⟩⟩⟩
  have ha1 := s1 _ _ ha
  have hl1 := s1 _ _ hl
  have hwl := paired_len pr
  refine ⟨_, rfl, _, _, _, _, rfl, rfl, SqT.of ha1, rfl, rfl, _, rfl, ?_⟩
  obtain ⟨rd, rows⟩ := sg
  cases rd with
  | one =>
    refine iteFd (by decide +kernel : decide (V.str Rd.one.s = V.str ("12" : Str)) = false) ?_
    refine ⟨_, rfl, _, _, _, _, rfl, rfl, SqT.of ha1, rfl, _, _, rfl, .inl (SqL.of hl1), _, rfl, rfl, _, rfl, iteTd (by rw [dec_int, hwl, o2]; rfl) ?_⟩
    refine ⟨_, rfl, _, _, _, _, rfl, rfl, SqT.of ha1, rfl, _, rfl, ⟨_, SqL.of hl1⟩, fun D hD => lc_it walk_list (fun i H' => Same H1 H' ∧ H' D = some (.lst (List.replicate i (.bl true)))) ⟨same_new hD _, upd_same⟩ (fun i H' _ z => SqL.of (z.1 _ _ hl1)) ?_ ?_⟩
    · rintro i x H2 H3 hi ⟨sm, hd⟩ ⟨rfl, hx⟩
      obtain ⟨r, hr, hxr⟩ := paired_get pr hx
      have hil := lt_len hr
      refine ⟨rfl, tyI ⟨_, rfl, _, rfl, _, rfl, x, r, outs, many, rfl, hxr.keep (Tups.of (s1.trans' sm)), o3 r (List.mem_of_getElem? hr), ho2, fun H4 s4 => ?_⟩⟩
      refine ⟨_, s4 _ _ hd, ?_, same_at (sm.trans' s4) hD, ?_⟩
      · rw [List.length_replicate]
        exact Nat.lt_of_lt_of_le (show i < 100000 by rw [o2] at hil; exact Nat.lt_of_lt_of_le hil (Rd.many_le _)) (by decide)
      · rw [upd_same, List.replicate_succ']
    · rintro H2 ⟨sm, hd⟩
      refine ⟨_, List.replicate _ true, rfl, SqL.of (by rw [hd, List.map_replicate]), ?_⟩
      rw [show ∀ m, (List.replicate m true).all id = true from fun m => by simp]
      exact q _ (s1.trans' sm)
  | two =>
    refine iteFd (by decide +kernel : decide (V.str Rd.two.s = V.str ("12" : Str)) = false) ?_
    refine ⟨_, rfl, _, _, _, _, rfl, rfl, SqT.of ha1, rfl, _, _, rfl, .inl (SqL.of hl1), _, rfl, rfl, _, rfl, iteTd (by rw [dec_int, hwl, o2]; rfl) ?_⟩
    refine ⟨_, rfl, _, _, _, _, rfl, rfl, SqT.of ha1, rfl, _, rfl, ⟨_, SqL.of hl1⟩, fun D hD => lc_it walk_list (fun i H' => Same H1 H' ∧ H' D = some (.lst (List.replicate i (.bl true)))) ⟨same_new hD _, upd_same⟩ (fun i H' _ z => SqL.of (z.1 _ _ hl1)) ?_ ?_⟩
    · rintro i x H2 H3 hi ⟨sm, hd⟩ ⟨rfl, hx⟩
      obtain ⟨r, hr, hxr⟩ := paired_get pr hx
      have hil := lt_len hr
      refine ⟨rfl, tyI ⟨_, rfl, _, rfl, _, rfl, x, r, outs, many, rfl, hxr.keep (Tups.of (s1.trans' sm)), o3 r (List.mem_of_getElem? hr), ho2, fun H4 s4 => ?_⟩⟩
      refine ⟨_, s4 _ _ hd, ?_, same_at (sm.trans' s4) hD, ?_⟩
      · rw [List.length_replicate]
        exact Nat.lt_of_lt_of_le (show i < 100000 by rw [o2] at hil; exact Nat.lt_of_lt_of_le hil (Rd.many_le _)) (by decide)
      · rw [upd_same, List.replicate_succ']
    · rintro H2 ⟨sm, hd⟩
      refine ⟨_, List.replicate _ true, rfl, SqL.of (by rw [hd, List.map_replicate]), ?_⟩
      rw [show ∀ m, (List.replicate m true).all id = true from fun m => by simp]
      exact q _ (s1.trans' sm)
  | both =>
    refine iteTd (by decide +kernel : decide (V.str Rd.both.s = V.str ("12" : Str)) = true) ?_
    refine ⟨_, rfl, _, _, _, _, rfl, rfl, SqT.of ha1, rfl, _, _, rfl, .inl (SqL.of hl1), _, rfl, rfl, _, rfl, iteTd (by rw [dec_int, hwl, o2]; rfl) ?_⟩
    refine ⟨_, rfl, _, _, _, _, rfl, rfl, SqT.of ha1, rfl, _, rfl, ⟨_, SqL.of hl1⟩, fun D hD => lc_it walk_list (fun i H' => Same H1 H' ∧ H' D = some (.lst (List.replicate i (.bl true)))) ⟨same_new hD _, upd_same⟩ (fun i H' _ z => SqL.of (z.1 _ _ hl1)) ?_ ?_⟩
    · rintro i x H2 H3 hi ⟨sm, hd⟩ ⟨rfl, hx⟩
      obtain ⟨r, hr, hxr⟩ := paired_get pr hx
      have hil := lt_len hr
      refine ⟨rfl, tyI ⟨_, rfl, _, rfl, _, rfl, x, r, outs, many, rfl, hxr.keep (Tups.of (s1.trans' sm)), o3 r (List.mem_of_getElem? hr), ho2, fun H4 s4 => ?_⟩⟩
      refine ⟨_, s4 _ _ hd, ?_, same_at (sm.trans' s4) hD, ?_⟩
      · rw [List.length_replicate]
        exact Nat.lt_of_lt_of_le (show i < 100000 by rw [o2] at hil; exact Nat.lt_of_lt_of_le hil (Rd.many_le _)) (by decide)
      · rw [upd_same, List.replicate_succ']
    · rintro H2 ⟨sm, hd⟩
      refine ⟨_, List.replicate _ true, rfl, SqL.of (by rw [hd, List.map_replicate]), ?_⟩
      rw [show ∀ m, (List.replicate m true).all id = true from fun m => by simp]
      exact q _ (s1.trans' sm)
end
end FY


set_option Elab.async false
set_option linter.all false
set_option maxRecDepth 100000
set_option maxHeartbeats 4000000
namespace FY
open PySem L2 FYR
theorem kTupOf {X : Cx} (K : PySem.W.Frag) (hK : X.K = K) : CallR X (.type "tuple") (fun xs H Q => ∃ p ys, xs = [.ref p] ∧ ((SqL K H p ys ∧ ∀ l, H l = none → Q (.ref l) (upd H l (.tup ys))) ∨ (SqT K H p ys ∧ Q (.ref p) H))) := by subst hK; exact call_tuple_of
def sflds (ins outs : Nat) (p : Addr) : List (Str × V) := [("own_ins", .int ins), ("own_outs", .int outs), ("own_standings", .ref p)]
/-- the value is a Station of the class at C -/
def StnA (C : Addr) (H : Hp) (v : V) (t : Stn) : Prop := ∃ a dx p ps, v = .ref a ∧ H a = some (.ins C dx (sflds t.ins t.outs p)) ∧ H p = some (.tup ps) ∧ Paired (SgA H) ps t.stgs
structure StC (K : PySem.W.Frag) (mg : Str → Option Value) (C : Addr) : Prop where
  g_Station : ∃ u, mg "Station" = some u ∧ RelV (.ref C) u
  cl : Cls K C
  nI : NoAttr K C "own_ins"
  nO : NoAttr K C "own_outs"
  nS : NoAttr K C "own_standings"
theorem sgA_all {H H' : Hp} (k : Tups H H') : ∀ {ws : List V} {rs : List Sg}, Paired (SgA H) ws rs → Paired (SgA H') ws rs
  | _, _, .nil => .nil
  | _, _, .cons r q => .cons (r.keep k) (sgA_all k q)
theorem told_all {H H' : Hp} (k : Same H H') : ∀ {ws : List V} {rs : List Sg}, Paired (ToldA H) ws rs → Paired (ToldA H') ws rs
  | _, _, .nil => .nil
  | _, _, .cons r q => .cons (r.same k) (told_all k q)
/-- all but the instance at a -/
def But (a : Addr) (H H' : Hp) : Prop := ∀ b o, b ≠ a → H b = some o → H' b = some o
theorem But.tups {a C dx : Addr} {fs : List (Str × V)} {H H' : Hp} (k : But a H H') (ha : H a = some (.ins C dx fs)) : Tups H H' := fun b xs e => k b _ (fun z => by rw [z, ha] at e; cases e) e
theorem But.lst {a C dx : Addr} {fs : List (Str × V)} {H H' : Hp} (k : But a H H') (ha : H a = some (.ins C dx fs)) {L : Addr} {xs : List V} (e : H L = some (.lst xs)) : H' L = some (.lst xs) := k L _ (fun z => by rw [z, ha] at e; cases e) e
theorem ToldA.but {a C dx : Addr} {fs : List (Str × V)} {H H' : Hp} (k : But a H H') (ha : H a = some (.ins C dx fs)) {v : V} {s : Sg} (h : ToldA H v s) : ToldA H' v s := by
  obtain ⟨b, q, ws, e, h1, h2, p⟩ := h
  exact ⟨b, q, ws, e, k.tups ha _ _ h1, k.lst ha h2, rwA_all (k.tups ha) p⟩
theorem told_but {a C dx : Addr} {fs : List (Str × V)} {H H' : Hp} (k : But a H H') (ha : H a = some (.ins C dx fs)) : ∀ {ws : List V} {rs : List Sg}, Paired (ToldA H) ws rs → Paired (ToldA H') ws rs
  | _, _, .nil => .nil
  | _, _, .cons r q => .cons (r.but k ha) (told_but k ha q)
theorem pf1 (x y : V) : putF "own_outs" y [("own_ins", x)] = ([("own_ins", x), ("own_outs", y)] : List (Str × V)) := by
  show (if ("own_ins" : Str) = "own_outs" then _ else _) = _
  rw [if_neg (by decide +kernel)]
  rfl
theorem pf2 (x y z : V) : putF "own_standings" z [("own_ins", x), ("own_outs", y)] = ([("own_ins", x), ("own_outs", y), ("own_standings", z)] : List (Str × V)) := by
  show (if ("own_ins" : Str) = "own_standings" then _ else (("own_ins" : Str), x) :: (if ("own_outs" : Str) = "own_standings" then _ else _)) = _
  rw [if_neg (by decide +kernel), if_neg (by decide +kernel)]
  rfl
def spStInit (C : Addr) : Sp := fun vs H Q _ => ∃ (a L dx : Addr) (ws : List V) (t : Stn), vs = [.ref a, .int t.ins, .int t.outs, .ref L] ∧ H a = some (.ins C dx []) ∧ H L = some (.lst ws) ∧ Paired (ToldA H) ws t.stgs ∧ t.ok ∧ ∀ H', (∀ b o, b ≠ a → H b = some o → H' b = some o) → StnA C H' (.ref a) t → Q .non H'
section
variable {P : Program} {w : World} {K : PySem.W.Frag} {mg : Str → Option Value} {base : Heap} {aS a1 a2 aL : Addr} {f : Addr} {fd : FuncData} {C : Addr}
abbrev s_Station___init__ : Stmt := inClass (top 40) 0
abbrev N_Station___init__ : List Str := ["self", "ins", "outs", "standings", "position", "told", "reads", "rows"]
theorem sc_Station___init__ : FnScope N_Station___init__ ["self", "ins", "outs", "standings"] (defScope s_Station___init__) := ⟨rfl, rfl, rfl, by decide +kernel, rfl, by decide +kernel, by decide +kernel⟩
theorem ok_Station_init (F : Fun K "__init__" "Station.__init__" s_Station___init__ f fd) (T : Txt K mg aS a1 a2) (S : StC K mg C) (c_is_integer : C8.Cal P w K mg base 1 "is_integer" spIsInt []) (c_is_list : C8.Cal P w K mg base 1 "is_list" spIsList []) (c_is_standing_told : C8.Cal P w K mg base 5 "is_standing_told" spIsTold []) : FnOk P w K mg base CX0 6 f fd ["self", "ins", "outs", "standings"] (spStInit C) := by
  refine F.ok sc_Station___init__ (fun vs H Q E h => ?_) (fun cdv A outer s H vs Q E hr h => ?_)
  · obtain ⟨a, L, dx, ws, t, rfl, _⟩ := h
    rfl
  obtain ⟨a, L, dx, ws, t, rfl, ha, hL, pr, tok, q⟩ := h
  have i1 := tok.i1
  have i2 := tok.i2
  have o1 := tok.o1
  have o2 := tok.o2
  have m1 := tok.m1
  have m2 := tok.m2
  have hwl := paired_len pr
  refine ⟨_, (pss_cons (ps_if (PW.pt (pw_or (pt_not (pt_val (C8.pe_c c_is_integer hr (by decide) rfl (pa_cons (pv 1) pa_nil)))) (pw_or1 (pt_not (pt_chain op_le op_le pe_int (pv 1) pe_int)))))
        (pss_one ps_never)
        pss_nil)
        (pss_cons (ps_if (PW.pt (pw_or (pt_not (pt_val (C8.pe_c c_is_integer hr (by decide) rfl (pa_cons (pv 2) pa_nil)))) (pw_or1 (pt_not (pt_chain op_le op_le pe_int (pv 2) pe_int)))))
        (pss_one ps_never)
        pss_nil)
        (pss_cons (ps_if (PW.pt (pw_or (pt_not (pt_val (C8.pe_c c_is_list hr (by decide) rfl (pa_cons (pv 3) pa_nil)))) (pw_or1 (pt_not (pt_chain op_le op_le pe_int (pe_callB (kLen K rfl) rfl T.b_len bt_len (pa_cons (pv 3) pa_nil)) (C8.pe_gc rfl T.g_MOST_STANDINGS))))))
        (pss_one ps_never)
        pss_nil)
        (pss_cons (ps_for PassesOwn.never rfl (kEnum K rfl rfl T.b_enumerate (pa_cons (pv 3) pa_nil)) (kTupG (n := 2) K rfl rfl (pgs_cons (pg_name (i := 4) sc_Station___init__.nd rfl (Or.inl rfl)) (pgs_cons (pg_name (i := 5) sc_Station___init__.nd rfl (Or.inl rfl)) pgs_nil)))
        (pss_one (ps_if (pt_not (pt_val (C8.pe_c c_is_standing_told hr (by decide) rfl (pa_cons (pv 5) (pa_cons (pv 1) (pa_cons (pv 2) (pa_cons (pe_callB (kLen K rfl) rfl T.b_len bt_len (pa_cons (pv 3) pa_nil)) pa_nil)))))))
        (pss_one ps_never)
        pss_nil)))
        (pss_cons (kSetF K rfl (pv 0) (pv 1))
        (pss_cons (kSetF K rfl (pv 0) (pv 2))
        (pss_one (kSetF K rfl (pv 0) (pe_callTy (kTupOf K rfl) rfl T.b_tuple bt_tuple (pa_cons (pe_lc (own := [("reads", 6), ("rows", 7)]) rfl sc_Station___init__.nd (kList K rfl (pv 3)) (blkOk_by (N := N_Station___init__) (sc := defScope s_Station___init__) (by decide +kernel)) (fun _ _ _ _ _ => (kTupG (n := 2) K rfl rfl (pgs_cons (pg_name (i := 6) sc_Station___init__.nd rfl (Or.inl rfl)) (pgs_cons (pg_name (i := 7) sc_Station___init__.nd rfl (Or.inl rfl)) pgs_nil)))) (fun _ _ _ _ _ => pts_nil) (fun _ _ _ _ _ => (pe_tup (pa_cons (pv 6) (pa_cons (pe_callTy (kTupOf K rfl) rfl T.b_tuple bt_tuple (pa_cons (pv 7) pa_nil)) pa_nil))))) pa_nil)))))))))), ?_⟩
  refine ⟨_, rfl, _, rfl, _, rfl, iteF ⟨_, rfl, _, _, rfl, rfl, _, rfl, iteTd (by simp; omega) ⟨_, _, rfl, rfl, _, rfl, iteFd (by simp; omega) ?_⟩⟩⟩
  refine ⟨_, rfl, _, rfl, _, rfl, iteF ⟨_, rfl, _, _, rfl, rfl, _, rfl, iteTd (by simp; omega) ⟨_, _, rfl, rfl, _, rfl, iteFd (by simp; omega) ?_⟩⟩⟩
  refine ⟨_, rfl, L, _, rfl, hL, fun H1 s1 => ⟨_, rfl, iteF ⟨_, rfl, _, _, rfl, .inl (SqL.of (s1 _ _ hL)), _, _, rfl, rfl, _, rfl, iteTd (by simp; omega) ⟨_, _, rfl, rfl, _, rfl, iteFd (by simp; omega) ?_⟩⟩⟩⟩
  have hL1 := s1 _ _ hL
  refine ⟨_, rfl, _, _, rfl, SqL.of hL1, for_it walk_enum (fun i σ H' => ∃ z4 z5 : Option V, σ = [some (.ref a), some (.int t.ins), some (.int t.outs), some (.ref L), z4, z5, none, none] ∧ Same H H') ⟨_, _, rfl, s1⟩ (fun i σ H' _ ⟨_, _, _, e⟩ => SqL.of (e _ _ hL)) ?_ ?_⟩
  · rintro i x σ H2 H3 hi ⟨z4, z5, rfl, sm⟩ ⟨T0, p1, p2, rfl, hT0, rfl, hp1, hp2⟩
    obtain ⟨sg, hsg, hx⟩ := paired_get pr hp2
    have k0 := same_new hT0 (.tup [p1, p2])
    refine ⟨_, _, rfl, SqT.of upd_same, rfl, _, _, rfl, _, _, rfl, rfl, ?_⟩
    refine ⟨_, rfl, _, rfl, _, rfl, _, rfl, _, _, rfl, .inl (SqL.of (k0 _ _ (sm _ _ hL))), p2, sg, t.ins, t.outs, ws.length, rfl, hx.same (sm.trans' k0), ?_, o2, fun H4 s4 => ⟨_, rfl, iteF ⟨_, _, rfl, (sm.trans' k0).trans' s4⟩⟩⟩
    have := tok.sg sg (List.mem_of_getElem? hsg)
    rw [hwl]
    exact this
  · rintro σ H2 ⟨z4, z5, rfl, sm⟩
    have ha2 := sm _ _ ha
    have hLa : L ≠ a := fun z => by rw [z, ha] at hL; cases hL
    refine ⟨_, rfl, _, rfl, a, C, dx, _, rfl, ha2, S.cl, S.nI, by decide, ?_⟩
    refine ⟨_, rfl, _, rfl, a, C, dx, [("own_ins", .int t.ins)], rfl, upd_same, S.cl, S.nO, Nat.lt_of_lt_of_le (Nat.lt_succ_self 1) (by decide : 2 ≤ 1000), ?_⟩
    rw [pf1]
    obtain ⟨H4, hH4⟩ : ∃ H4, H4 = upd (upd H2 a (.ins C dx (putF "own_ins" (.int t.ins) []))) a (.ins C dx [("own_ins", .int t.ins), ("own_outs", .int t.outs)]) := ⟨_, rfl⟩
    have ha4 : H4 a = some (.ins C dx [("own_ins", .int t.ins), ("own_outs", .int t.outs)]) := by rw [hH4, upd_same]
    have b4 : But a H H4 := fun b o hb e => by rw [hH4, upd_ne hb, upd_ne hb]; exact sm _ _ e
    rw [← hH4]
    clear hH4
    have hL4 := b4.lst ha hL
    have pr4 := told_but b4 ha pr
    refine ⟨_, rfl, _, rfl, ⟨_, SqL.of hL4⟩, fun D hD => lc_it walk_list (fun i H' => Same H4 H' ∧ ∃ us, H' D = some (.lst us) ∧ Paired (SgA H') us (t.stgs.take i)) ⟨same_new hD _, [], upd_same, .nil⟩ (fun i H' _ z => SqL.of (z.1 _ _ hL4)) ?_ ?_⟩
    · rintro i x H5 H6 hi ⟨sm5, us, hd, pu⟩ ⟨rfl, hx⟩
      obtain ⟨sg, hsg, hxs⟩ := paired_get pr4 hx
      obtain ⟨b, l, rs, rfl, hb, hl, prs⟩ := hxs.same sm5
      have hlu := paired_len pu
      have hil := lt_len hsg
      refine ⟨_, _, rfl, SqT.of hb, rfl, _, _, rfl, _, _, rfl, rfl, rfl, tyI ⟨_, rfl, _, rfl, _, _, rfl, .inl ⟨SqL.of hl, fun p1 hp1 => ⟨sz rfl, fun p2 hp2 => ?_⟩⟩⟩⟩
      have k1 := same_new hp1 (.tup rs)
      have k2 := same_new hp2 (.tup [.str sg.reads.s, .ref p1])
      have hd2 := k2 _ _ (k1 _ _ hd)
      have tu : Tups H6 (upd (upd (upd H6 p1 (.tup rs)) p2 (.tup [.str sg.reads.s, .ref p1])) D (.lst (us ++ [.ref p2]))) := (Tups.of (k1.trans' k2)).trans (tups_at hd2)
      refine ⟨_, hd2, ?_, same_at ((sm5.trans' k1).trans' k2) hD, us ++ [.ref p2], upd_same, ?_⟩
      · rw [List.length_take] at hlu
        exact Nat.lt_of_lt_of_le (show us.length < 100000 by omega) (by decide)
      · rw [List.take_succ, hsg]
        refine paired_app (sgA_all tu pu) (.cons ⟨p2, p1, rs, rfl, tups_at hd2 _ _ upd_same, tups_at hd2 _ _ (k2 _ _ upd_same), rwA_all tu prs⟩ .nil)
    · rintro H5 ⟨sm5, us, hd, pu⟩
      rw [hwl, List.take_of_length_le (Nat.le_refl _)] at pu
      refine ⟨_, _, rfl, .inl ⟨SqL.of hd, fun p hp => ?_⟩⟩
      have kp := same_new hp (.tup us)
      refine ⟨_, rfl, a, C, dx, _, rfl, kp _ _ (sm5 _ _ ha4), S.cl, S.nS, Nat.lt_of_lt_of_le (Nat.lt_succ_self 2) (by decide : 3 ≤ 1000), ?_⟩
      rw [pf2]
      have haK : upd H5 p (.tup us) a = some (.ins C dx [("own_ins", .int t.ins), ("own_outs", .int t.outs)]) := kp _ _ (sm5 _ _ ha4)
      have bK : But a (upd H5 p (.tup us)) (upd (upd H5 p (.tup us)) a (.ins C dx [("own_ins", .int t.ins), ("own_outs", .int t.outs), ("own_standings", .ref p)])) := fun b o hb e => by rw [upd_ne hb]; exact e
      refine q _ (fun b o hb e => bK b o hb (kp _ _ (sm5 _ _ (b4 b o hb e)))) ⟨a, dx, p, us, rfl, upd_same, bK.tups haK _ _ upd_same, sgA_all ((Tups.of kp).trans (bK.tups haK)) pu⟩
end
end FY


set_option Elab.async false
set_option linter.all false
set_option maxRecDepth 100000
set_option maxHeartbeats 4000000
namespace FY
open PySem L2 FYR
def r1 (b : List Bool) (n : Nat) : Rw := ⟨[b], n, 1⟩
theorem r1_ok {b : List Bool} {n m : Nat} (hb : b.length ≤ 2) (h : n < m) : (r1 b n).ok 1 m := ⟨rfl, fun g hg => by
  obtain rfl : g = b := by simpa [r1] using hg
  exact hb, h, Nat.le_refl 1, (by decide : 1 ≤ 9)⟩
def spRow : Sp := fun vs H Q _ => ∃ (b : List Bool) (n : Nat), vs = [.str (tx b), .int n] ∧ ∀ H' v, Same H H' → RwA H' v (r1 b n) → Q v H'
/-- Station(i, o, ..) -/
theorem make_st {C L : Addr} {H1 : Hp} {t : Stn} {ws : List V} {Q : VK} {E : XK} (hL : H1 L = some (.lst ws)) (pr : Paired (ToldA H1) ws t.stgs) (ok : t.ok) (hq : ∀ H' v, Same H1 H' → StnA C H' v t → Q v H') :
    ∀ x dx, H1 x = none → H1 dx = none → dx ≠ x → spStInit C [.ref x, .int t.ins, .int t.outs, .ref L] (upd (upd H1 dx (.own x)) x (.ins C dx [])) (fun v H2 => v = .non ∧ Q (.ref x) H2) E := by
  intro x dx hx hdx hne
  have s1 : Same H1 (upd (upd H1 dx (.own x)) x (.ins C dx [])) := fun b o e => by
    rw [upd_ne (ne_of_none e hx), upd_ne (ne_of_none e hdx)]
    exact e
  exact ⟨x, L, dx, ws, t, rfl, upd_same, s1 _ _ hL, told_all s1 pr, ok, fun H' k st => ⟨rfl, hq _ _ (fun b o e => k b o (ne_of_none e hx) (s1 _ _ e)) st⟩⟩
def RowsA (H : Hp) (v : V) (rs : List Rw) : Prop := ∃ l ws, v = .ref l ∧ H l = some (.lst ws) ∧ Paired (RwA H) ws rs
theorem RowsA.same {H H' : Hp} (k : Same H H') {v : V} {s : List Rw} (h : RowsA H v s) : RowsA H' v s := by
  obtain ⟨l, ws, e, h1, p⟩ := h
  exact ⟨l, ws, e, k _ _ h1, rwA_all (Tups.of k) p⟩
theorem rowsA_all {H H' : Hp} (k : Same H H') : ∀ {ws : List V} {rs : List (List Rw)}, Paired (RowsA H) ws rs → Paired (RowsA H') ws rs
  | _, _, .nil => .nil
  | _, _, .cons r q => .cons (r.same k) (rowsA_all k q)
def wayOf (rss : List (List Rw)) : Stn := ⟨1, 1, rss.map fun rs => ⟨.one, rs⟩⟩
def wayOk (rss : List (List Rw)) : Prop := 1 ≤ rss.length ∧ rss.length ≤ 4 ∧ ∀ rs ∈ rss, rs.length = 2 ∧ ∀ r ∈ rs, r.ok 1 rss.length
theorem way_ok {rss : List (List Rw)} (h : wayOk rss) : (wayOf rss).ok := by
  obtain ⟨h1, h2, h3⟩ := h
  refine ⟨Nat.le_refl 1, (by decide : 1 ≤ 2), Nat.le_refl 1, (by decide : 1 ≤ 2), by simpa [wayOf] using h1, by simpa [wayOf] using h2, fun s hs => ?_⟩
  obtain ⟨rs, hrs, rfl⟩ := List.mem_map.mp hs
  obtain ⟨e1, e2⟩ := h3 rs hrs
  refine ⟨.inl rfl, e1, fun r hr => ?_⟩
  have := e2 r hr
  simpa [wayOf] using this
def TolP (H0 H : Hp) (v : V) (rs : List Rw) : Prop := ∃ a q ws, v = .ref a ∧ H a = some (.tup [.str "1", .ref q]) ∧ H0 q = some (.lst ws) ∧ Paired (RwA H0) ws rs
theorem tolP_keep {H0 H H' : Hp} (k : Tups H H') : ∀ {vs : List V} {rss : List (List Rw)}, Paired (TolP H0 H) vs rss → Paired (TolP H0 H') vs rss
  | _, _, .nil => .nil
  | _, _, .cons ⟨a, q, ws, e, h, r⟩ p => .cons ⟨a, q, ws, e, k _ _ h, r⟩ (tolP_keep k p)
theorem tolP_told {H0 H : Hp} (s : Same H0 H) : ∀ {vs : List V} {rss : List (List Rw)}, Paired (TolP H0 H) vs rss → Paired (ToldA H) vs (rss.map fun rs => ⟨.one, rs⟩)
  | _, _, .nil => .nil
  | _, _, .cons ⟨a, q, ws, e, h, h2, r⟩ p => .cons ⟨a, q, ws, e, h, s _ _ h2, rwA_all (Tups.of s) r⟩ (tolP_told s p)
def spOneWay (C : Addr) : Sp := fun vs H Q _ => ∃ (R : Addr) (us : List V) (rss : List (List Rw)), vs = [.ref R] ∧ H R = some (.lst us) ∧ Paired (RowsA H) us rss ∧ wayOk rss ∧ ∀ H' v, Same H H' → StnA C H' v (wayOf rss) → Q v H'
def spKept : Sp := fun vs H Q _ => ∃ a b : Bool, vs = [.str (tx [a, b])] ∧ Q (.str (tx (if b then [a] else []))) H
section
variable {P : Program} {w : World} {K : PySem.W.Frag} {mg : Str → Option Value} {base : Heap} {aS a1 a2 aL : Addr} {f : Addr} {fd : FuncData} {C : Addr}
abbrev s_row : Stmt := top 100
abbrev N_row : List Str := ["text", "goal"]
theorem sc_row : FnScope N_row ["text", "goal"] (defScope s_row) := ⟨rfl, rfl, rfl, by decide +kernel, rfl, by decide +kernel, by decide +kernel⟩
theorem ok_row (F : Fun K "row" "row" s_row f fd) : FnOk P w K mg base CX0 1 f fd ["text", "goal"] spRow := by
  refine F.ok sc_row (fun vs H Q E h => ?_) (fun cdv A outer s H vs Q E hr h => ?_)
  · obtain ⟨b, n, rfl, _⟩ := h
    rfl
  obtain ⟨b, n, rfl, q⟩ := h
  refine ⟨_, (pss_one (ps_ret (pe_tup (pa_cons (pe_tup (pa_cons (pv 0) pa_nil)) (pa_cons (pv 1) (pa_cons pe_int pa_nil)))))), ?_⟩
  refine ⟨_, rfl, sz rfl, fun g hg => ⟨_, rfl, sz rfl, fun a ha => q _ _ ((same_new hg _).trans' (same_new ha _)) ⟨a, g, rfl, upd_same, same_new ha _ _ _ upd_same⟩⟩⟩
abbrev s_kept : Stmt := top 104
abbrev N_kept : List Str := ["two"]
theorem sc_kept : FnScope N_kept ["two"] (defScope s_kept) := ⟨rfl, rfl, rfl, by decide +kernel, rfl, by decide +kernel, by decide +kernel⟩
theorem ok_kept (F : Fun K "kept" "kept" s_kept f fd) : FnOk P w K mg base CX0 1 f fd ["two"] spKept := by
  refine F.ok sc_kept (fun vs H Q E h => ?_) (fun cdv A outer s H vs Q E hr h => ?_)
  · obtain ⟨a, b, rfl, _⟩ := h
    rfl
  obtain ⟨a, b, rfl, q⟩ := h
  refine ⟨_, (pss_one (ps_ret (pe_ifExp (pt_cmpR op_eq (pe_ix ix_str (pv 0) pe_int (fun _ _ => rfl)) pe_str (nomark _)) (pe_ix ix_str (pv 0) pe_int (fun _ _ => rfl)) pe_str))), ?_⟩
  have hz : (tx [a, b]).length ≤ sizeLine := by rw [tx_len]; exact small5 (by simp)
  refine ⟨_, rfl, _, _, cd b, rfl, rfl, hz, by rw [tx_toList]; rfl, rfl, _, rfl, ?_⟩
  cases b with
  | true => exact iteTd (by decide +kernel) ⟨_, rfl, _, _, cd a, rfl, rfl, hz, by rw [tx_toList]; rfl, q⟩
  | false =>
    refine iteFd (by decide +kernel) ?_
    have z : Q (.str (tx [])) H := q
    rw [← se] at z
    exact z
abbrev s_one_way : Stmt := top 101
abbrev N_one_way : List Str := ["rows_now", "rows"]
theorem sc_one_way : FnScope N_one_way ["rows_now"] (defScope s_one_way) := ⟨rfl, rfl, rfl, by decide +kernel, rfl, by decide +kernel, by decide +kernel⟩
theorem ok_one_way (F : Fun K "one_way" "one_way" s_one_way f fd) (T : Txt K mg aS a1 a2) (mk_Station : C8.Mak P w K mg base 6 "Station" C (spStInit C) []) : FnOk P w K mg base CX0 8 f fd ["rows_now"] (spOneWay C) := by
  refine F.ok sc_one_way (fun vs H Q E h => ?_) (fun cdv A outer s H vs Q E hr h => ?_)
  · obtain ⟨R, us, rss, rfl, _⟩ := h
    rfl
  obtain ⟨R, us, rss, rfl, hR, pr, wok, q⟩ := h
  refine ⟨_, (pss_one (ps_ret (C8.pe_mk mk_Station hr (by decide) rfl (pa_cons pe_int (pa_cons pe_int (pa_cons (pe_lc (own := [("rows", 1)]) rfl sc_one_way.nd (kList K rfl (pv 0)) (blkOk_by (N := N_one_way) (sc := defScope s_one_way) (by decide +kernel)) (fun _ _ _ _ _ => (pg_name (i := 1) sc_one_way.nd rfl (Or.inl rfl))) (fun _ _ _ _ _ => pts_nil) (fun _ _ _ _ _ => (pe_tup (pa_cons pe_str (pa_cons (pv 1) pa_nil))))) pa_nil)))))), ?_⟩
  have hwl := paired_len pr
  have w4 := wok.2.1
  refine ⟨_, rfl, _, rfl, ⟨_, SqL.of hR⟩, fun D hD => lc_it walk_list (fun i H' => Same H H' ∧ ∃ vs, H' D = some (.lst vs) ∧ Paired (TolP H H') vs (rss.take i)) ⟨same_new hD _, [], upd_same, .nil⟩ (fun i H' _ z => SqL.of (z.1 _ _ hR)) ?_ ?_⟩
  · rintro i x H1 H2 hi ⟨sm, vs, hd, pu⟩ ⟨rfl, hx⟩
    obtain ⟨rs, hrs, l, ws, rfl, hl, prs⟩ := paired_get pr hx
    have hil := lt_len hrs
    have hlu := paired_len pu
    refine ⟨rfl, tyI ⟨_, rfl, sz rfl, fun p hp => ?_⟩⟩
    have k1 := same_new hp (.tup [.str "1", .ref l])
    have hd1 := k1 _ _ hd
    refine ⟨_, hd1, ?_, same_at (sm.trans' k1) hD, vs ++ [.ref p], upd_same, ?_⟩
    · rw [List.length_take] at hlu
      exact Nat.lt_of_lt_of_le (show vs.length < 100000 by omega) (by decide)
    · rw [List.take_succ, hrs]
      exact paired_app (tolP_keep ((Tups.of k1).trans (tups_at hd1)) pu) (.cons ⟨p, l, ws, rfl, tups_at hd1 _ _ upd_same, hl, prs⟩ .nil)
  · rintro H1 ⟨sm, vs, hd, pu⟩
    rw [hwl, List.take_of_length_le (Nat.le_refl _)] at pu
    exact make_st (t := wayOf rss) hd (tolP_told sm pu) (way_ok wok) fun H' v s st => q _ _ (sm.trans' s) st
end
end FY


set_option Elab.async false
set_option linter.all false
set_option maxRecDepth 100000
set_option maxHeartbeats 4000000
namespace FY
open PySem L2 FYR
theorem z00 : ("00" : Str) = tx [false, false] := by decide +kernel
theorem z11 : ("11" : Str) = tx [true, true] := by decide +kernel
theorem z0 : ("0" : Str) = tx [false] := s0
theorem z1 : ("1" : Str) = tx [true] := s1
theorem ze : ("" : Str) = tx [] := se
theorem rowLit {z : Str} {b : List Bool} {n : Nat} (e : z = tx b) : [V.str z, V.int (n : Int)] = [V.str (tx b), V.int n] := by rw [e]
def rowsW : W1 → List (List Rw)
  | .no => [[r1 [true] 0, r1 [false] 0]]
  | .twice => [[r1 [false, false] 0, r1 [true, true] 0]]
  | .half => [[r1 [] 1, r1 [] 1], [r1 [false] 0, r1 [true] 0]]
  | .change => [[r1 [false] 0, r1 [true] 1], [r1 [true] 0, r1 [false] 1]]
  | .count => [[r1 [false] 0, r1 [true] 1], [r1 [true] 1, r1 [false] 0]]
def rowsLate (b : Bool) : List (List Rw) := [[r1 [b] (if b then 1 else 0), r1 [b] (if b then 0 else 1)], [r1 [!b] (if b then 1 else 0), r1 [!b] (if b then 0 else 1)]]
def rowsT : Tm → List (List Rw)
  | .one w _ => rowsW w
  | .late b _ => rowsLate b
  | _ => []
def spLate : Sp := fun vs H Q _ => ∃ b : Bool, vs = [.str (sgn b)] ∧ ∀ H' R us, Same H H' → H' R = some (.lst us) → Paired (RowsA H') us (rowsLate b) → Q (.ref R) H'
def spRowsOf : Sp := fun vs H Q _ => ∃ v t, vs = [v] ∧ TA H v t ∧ t.parts.length = 1 ∧ ∀ H' R us, Same H H' → H' R = some (.lst us) → Paired (RowsA H') us (rowsT t) → Q (.ref R) H'
section
variable {P : Program} {w : World} {K : PySem.W.Frag} {mg : Str → Option Value} {base : Heap} {aS a1 a2 aL : Addr} {f : Addr} {fd : FuncData} {C : Addr}
abbrev s_rows_of : Stmt := top 103
abbrev N_rows_of : List Str := ["term"]
theorem sc_rows_of : FnScope N_rows_of ["term"] (defScope s_rows_of) := ⟨rfl, rfl, rfl, by decide +kernel, rfl, by decide +kernel, by decide +kernel⟩
theorem ok_rows_of (F : Fun K "rows_of" "rows_of" s_rows_of f fd) (c_row : C8.Cal P w K mg base 1 "row" spRow []) (c_late_rows : C8.Cal P w K mg base 2 "late_rows" spLate []) : FnOk P w K mg base CX0 3 f fd ["term"] spRowsOf := by
  refine F.ok sc_rows_of (fun vs H Q E h => ?_) (fun cdv A outer s H vs Q E hr h => ?_)
  · obtain ⟨v, t, rfl, _⟩ := h
    rfl
  obtain ⟨v, t, rfl, ta, hp, q⟩ := h
  refine ⟨_, (pss_cons (ps_if (pt_cmpR op_eq (pe_ix (kIxT K rfl) (pv 0) pe_int (fun _ _ => rfl)) pe_str (nomark _))
        (pss_one (ps_ret (pe_lst (pa_cons (pe_lst (pa_cons (C8.pe_c c_row hr (by decide) rfl (pa_cons pe_str (pa_cons pe_int pa_nil))) (pa_cons (C8.pe_c c_row hr (by decide) rfl (pa_cons pe_str (pa_cons pe_int pa_nil))) pa_nil))) pa_nil))))
        pss_nil)
        (pss_cons (ps_if (pt_cmpR op_eq (pe_ix (kIxT K rfl) (pv 0) pe_int (fun _ _ => rfl)) pe_str (nomark _))
        (pss_one (ps_ret (pe_lst (pa_cons (pe_lst (pa_cons (C8.pe_c c_row hr (by decide) rfl (pa_cons pe_str (pa_cons pe_int pa_nil))) (pa_cons (C8.pe_c c_row hr (by decide) rfl (pa_cons pe_str (pa_cons pe_int pa_nil))) pa_nil))) pa_nil))))
        pss_nil)
        (pss_cons (ps_if (pt_cmpR op_eq (pe_ix (kIxT K rfl) (pv 0) pe_int (fun _ _ => rfl)) pe_str (nomark _))
        (pss_one (ps_ret (pe_lst (pa_cons (pe_lst (pa_cons (C8.pe_c c_row hr (by decide) rfl (pa_cons pe_str (pa_cons pe_int pa_nil))) (pa_cons (C8.pe_c c_row hr (by decide) rfl (pa_cons pe_str (pa_cons pe_int pa_nil))) pa_nil))) (pa_cons (pe_lst (pa_cons (C8.pe_c c_row hr (by decide) rfl (pa_cons pe_str (pa_cons pe_int pa_nil))) (pa_cons (C8.pe_c c_row hr (by decide) rfl (pa_cons pe_str (pa_cons pe_int pa_nil))) pa_nil))) pa_nil)))))
        pss_nil)
        (pss_cons (ps_if (pt_cmpR op_eq (pe_ix (kIxT K rfl) (pv 0) pe_int (fun _ _ => rfl)) pe_str (nomark _))
        (pss_one (ps_ret (pe_lst (pa_cons (pe_lst (pa_cons (C8.pe_c c_row hr (by decide) rfl (pa_cons pe_str (pa_cons pe_int pa_nil))) (pa_cons (C8.pe_c c_row hr (by decide) rfl (pa_cons pe_str (pa_cons pe_int pa_nil))) pa_nil))) (pa_cons (pe_lst (pa_cons (C8.pe_c c_row hr (by decide) rfl (pa_cons pe_str (pa_cons pe_int pa_nil))) (pa_cons (C8.pe_c c_row hr (by decide) rfl (pa_cons pe_str (pa_cons pe_int pa_nil))) pa_nil))) pa_nil)))))
        pss_nil)
        (pss_cons (ps_if (pt_cmpR op_eq (pe_ix (kIxT K rfl) (pv 0) pe_int (fun _ _ => rfl)) pe_str (nomark _))
        (pss_one (ps_ret (pe_lst (pa_cons (pe_lst (pa_cons (C8.pe_c c_row hr (by decide) rfl (pa_cons pe_str (pa_cons pe_int pa_nil))) (pa_cons (C8.pe_c c_row hr (by decide) rfl (pa_cons pe_str (pa_cons pe_int pa_nil))) pa_nil))) (pa_cons (pe_lst (pa_cons (C8.pe_c c_row hr (by decide) rfl (pa_cons pe_str (pa_cons pe_int pa_nil))) (pa_cons (C8.pe_c c_row hr (by decide) rfl (pa_cons pe_str (pa_cons pe_int pa_nil))) pa_nil))) pa_nil)))))
        pss_nil)
        (pss_one (ps_ret (C8.pe_c c_late_rows hr (by decide) rfl (pa_cons (pe_ix (kIxT K rfl) (pv 0) pe_int (fun _ _ => rfl)) pa_nil))))))))), ?_⟩
  cases t with
  | inn => cases hp
  | byy _ _ _ _ _ _ => cases hp
  | keep _ _ => cases hp
  | thn _ _ => cases hp
  | late b t =>
    obtain ⟨a, x, rfl, h, r⟩ := ta
    refine ⟨_, rfl, _, _, _, _, rfl, rfl, SqT.of h, rfl, rfl, _, rfl, iteFd (by decide +kernel) ?_⟩
    refine ⟨_, rfl, _, _, _, _, rfl, rfl, SqT.of h, rfl, rfl, _, rfl, iteFd (by decide +kernel) ?_⟩
    refine ⟨_, rfl, _, _, _, _, rfl, rfl, SqT.of h, rfl, rfl, _, rfl, iteFd (by decide +kernel) ?_⟩
    refine ⟨_, rfl, _, _, _, _, rfl, rfl, SqT.of h, rfl, rfl, _, rfl, iteFd (by decide +kernel) ?_⟩
    refine ⟨_, rfl, _, _, _, _, rfl, rfl, SqT.of h, rfl, rfl, _, rfl, iteFd (by decide +kernel) ?_⟩
    exact ⟨_, rfl, _, _, _, _, rfl, rfl, SqT.of h, rfl, b, rfl, q⟩
  | one w t =>
    obtain ⟨a, x, rfl, h, r⟩ := ta
    cases w with
    | no =>
      refine ⟨_, rfl, _, _, _, _, rfl, rfl, SqT.of h, rfl, rfl, _, rfl, iteTd (by decide +kernel) ?_⟩
      refine ⟨[true], 0, rowLit z1, fun H1 v1 s1 a1 => ?_⟩
      refine ⟨[false], 0, rowLit z0, fun H2 v2 s2 a2 => ?_⟩
      refine ⟨sz rfl, fun l0 hl0 => ?_⟩
      have k0 := same_new hl0 (.lst [v1, v2])
      refine ⟨sz rfl, fun R hR => ?_⟩
      have kR := same_new hR (.lst [.ref l0])
      exact q _ R _ (((s1.trans' s2).trans' k0).trans' kR) upd_same (.cons ⟨l0, _, rfl, kR _ _ upd_same, (.cons (a1.keep (Tups.of ((s2.trans' k0).trans' kR))) (.cons (a2.keep (Tups.of (k0.trans' kR))) .nil))⟩ .nil)
    | twice =>
      refine ⟨_, rfl, _, _, _, _, rfl, rfl, SqT.of h, rfl, rfl, _, rfl, iteFd (by decide +kernel) ?_⟩
      refine ⟨_, rfl, _, _, _, _, rfl, rfl, SqT.of h, rfl, rfl, _, rfl, iteTd (by decide +kernel) ?_⟩
      refine ⟨[false, false], 0, rowLit z00, fun H1 v1 s1 a1 => ?_⟩
      refine ⟨[true, true], 0, rowLit z11, fun H2 v2 s2 a2 => ?_⟩
      refine ⟨sz rfl, fun l0 hl0 => ?_⟩
      have k0 := same_new hl0 (.lst [v1, v2])
      refine ⟨sz rfl, fun R hR => ?_⟩
      have kR := same_new hR (.lst [.ref l0])
      exact q _ R _ (((s1.trans' s2).trans' k0).trans' kR) upd_same (.cons ⟨l0, _, rfl, kR _ _ upd_same, (.cons (a1.keep (Tups.of ((s2.trans' k0).trans' kR))) (.cons (a2.keep (Tups.of (k0.trans' kR))) .nil))⟩ .nil)
    | half =>
      refine ⟨_, rfl, _, _, _, _, rfl, rfl, SqT.of h, rfl, rfl, _, rfl, iteFd (by decide +kernel) ?_⟩
      refine ⟨_, rfl, _, _, _, _, rfl, rfl, SqT.of h, rfl, rfl, _, rfl, iteFd (by decide +kernel) ?_⟩
      refine ⟨_, rfl, _, _, _, _, rfl, rfl, SqT.of h, rfl, rfl, _, rfl, iteTd (by decide +kernel) ?_⟩
      refine ⟨[], 1, rowLit ze, fun H1 v1 s1 a1 => ?_⟩
      refine ⟨[], 1, rowLit ze, fun H2 v2 s2 a2 => ?_⟩
      refine ⟨sz rfl, fun l0 hl0 => ?_⟩
      have k0 := same_new hl0 (.lst [v1, v2])
      refine ⟨[false], 0, rowLit z0, fun H3 v3 s3 a3 => ?_⟩
      refine ⟨[true], 0, rowLit z1, fun H4 v4 s4 a4 => ?_⟩
      refine ⟨sz rfl, fun l1 hl1 => ?_⟩
      have k1 := same_new hl1 (.lst [v3, v4])
      refine ⟨sz rfl, fun R hR => ?_⟩
      have kR := same_new hR (.lst [.ref l0, .ref l1])
      exact q _ R _ ((((((s1.trans' s2).trans' k0).trans' s3).trans' s4).trans' k1).trans' kR) upd_same (.cons ⟨l0, _, rfl, (((s3.trans' s4).trans' k1).trans' kR) _ _ upd_same, (.cons (a1.keep (Tups.of (((((s2.trans' k0).trans' s3).trans' s4).trans' k1).trans' kR))) (.cons (a2.keep (Tups.of ((((k0.trans' s3).trans' s4).trans' k1).trans' kR))) .nil))⟩ (.cons ⟨l1, _, rfl, kR _ _ upd_same, (.cons (a3.keep (Tups.of ((s4.trans' k1).trans' kR))) (.cons (a4.keep (Tups.of (k1.trans' kR))) .nil))⟩ .nil))
    | change =>
      refine ⟨_, rfl, _, _, _, _, rfl, rfl, SqT.of h, rfl, rfl, _, rfl, iteFd (by decide +kernel) ?_⟩
      refine ⟨_, rfl, _, _, _, _, rfl, rfl, SqT.of h, rfl, rfl, _, rfl, iteFd (by decide +kernel) ?_⟩
      refine ⟨_, rfl, _, _, _, _, rfl, rfl, SqT.of h, rfl, rfl, _, rfl, iteFd (by decide +kernel) ?_⟩
      refine ⟨_, rfl, _, _, _, _, rfl, rfl, SqT.of h, rfl, rfl, _, rfl, iteTd (by decide +kernel) ?_⟩
      refine ⟨[false], 0, rowLit z0, fun H1 v1 s1 a1 => ?_⟩
      refine ⟨[true], 1, rowLit z1, fun H2 v2 s2 a2 => ?_⟩
      refine ⟨sz rfl, fun l0 hl0 => ?_⟩
      have k0 := same_new hl0 (.lst [v1, v2])
      refine ⟨[true], 0, rowLit z1, fun H3 v3 s3 a3 => ?_⟩
      refine ⟨[false], 1, rowLit z0, fun H4 v4 s4 a4 => ?_⟩
      refine ⟨sz rfl, fun l1 hl1 => ?_⟩
      have k1 := same_new hl1 (.lst [v3, v4])
      refine ⟨sz rfl, fun R hR => ?_⟩
      have kR := same_new hR (.lst [.ref l0, .ref l1])
      exact q _ R _ ((((((s1.trans' s2).trans' k0).trans' s3).trans' s4).trans' k1).trans' kR) upd_same (.cons ⟨l0, _, rfl, (((s3.trans' s4).trans' k1).trans' kR) _ _ upd_same, (.cons (a1.keep (Tups.of (((((s2.trans' k0).trans' s3).trans' s4).trans' k1).trans' kR))) (.cons (a2.keep (Tups.of ((((k0.trans' s3).trans' s4).trans' k1).trans' kR))) .nil))⟩ (.cons ⟨l1, _, rfl, kR _ _ upd_same, (.cons (a3.keep (Tups.of ((s4.trans' k1).trans' kR))) (.cons (a4.keep (Tups.of (k1.trans' kR))) .nil))⟩ .nil))
    | count =>
      refine ⟨_, rfl, _, _, _, _, rfl, rfl, SqT.of h, rfl, rfl, _, rfl, iteFd (by decide +kernel) ?_⟩
      refine ⟨_, rfl, _, _, _, _, rfl, rfl, SqT.of h, rfl, rfl, _, rfl, iteFd (by decide +kernel) ?_⟩
      refine ⟨_, rfl, _, _, _, _, rfl, rfl, SqT.of h, rfl, rfl, _, rfl, iteFd (by decide +kernel) ?_⟩
      refine ⟨_, rfl, _, _, _, _, rfl, rfl, SqT.of h, rfl, rfl, _, rfl, iteFd (by decide +kernel) ?_⟩
      refine ⟨_, rfl, _, _, _, _, rfl, rfl, SqT.of h, rfl, rfl, _, rfl, iteTd (by decide +kernel) ?_⟩
      refine ⟨[false], 0, rowLit z0, fun H1 v1 s1 a1 => ?_⟩
      refine ⟨[true], 1, rowLit z1, fun H2 v2 s2 a2 => ?_⟩
      refine ⟨sz rfl, fun l0 hl0 => ?_⟩
      have k0 := same_new hl0 (.lst [v1, v2])
      refine ⟨[true], 1, rowLit z1, fun H3 v3 s3 a3 => ?_⟩
      refine ⟨[false], 0, rowLit z0, fun H4 v4 s4 a4 => ?_⟩
      refine ⟨sz rfl, fun l1 hl1 => ?_⟩
      have k1 := same_new hl1 (.lst [v3, v4])
      refine ⟨sz rfl, fun R hR => ?_⟩
      have kR := same_new hR (.lst [.ref l0, .ref l1])
      exact q _ R _ ((((((s1.trans' s2).trans' k0).trans' s3).trans' s4).trans' k1).trans' kR) upd_same (.cons ⟨l0, _, rfl, (((s3.trans' s4).trans' k1).trans' kR) _ _ upd_same, (.cons (a1.keep (Tups.of (((((s2.trans' k0).trans' s3).trans' s4).trans' k1).trans' kR))) (.cons (a2.keep (Tups.of ((((k0.trans' s3).trans' s4).trans' k1).trans' kR))) .nil))⟩ (.cons ⟨l1, _, rfl, kR _ _ upd_same, (.cons (a3.keep (Tups.of ((s4.trans' k1).trans' kR))) (.cons (a4.keep (Tups.of (k1.trans' kR))) .nil))⟩ .nil))
end
end FY


set_option Elab.async false
set_option linter.all false
set_option maxRecDepth 100000
set_option maxHeartbeats 4000000
namespace FY
open PySem L2 FYR
theorem z01 : ("01" : Str) = tx [false, true] := by decide +kernel
abbrev s_late_rows : Stmt := top 102
abbrev N_late_rows : List Str := ["sign", "other", "goals", "heard", "text", "goal"]
theorem sc_late_rows : FnScope N_late_rows ["sign"] (defScope s_late_rows) := ⟨rfl, rfl, rfl, by decide +kernel, rfl, by decide +kernel, by decide +kernel⟩
abbrev lateSc : Scope := { kind := .function, names := [(".0", .local), ("text", .cell), ("goals", .cell)], isGenerator := false, isCoroutine := false }
def RowsP (R : Addr) (H : Hp) (v : V) (rs : List Rw) : Prop := ∃ l ws, v = .ref l ∧ l ≠ R ∧ H l = some (.lst ws) ∧ Paired (RwA H) ws rs
theorem rowsP_keep {R : Addr} {H H' : Hp} {xs ys : List V} (s : Same H H') (hR : H' R = some (.lst xs)) : ∀ {us : List V} {rss : List (List Rw)}, Paired (RowsP R H) us rss → Paired (RowsP R (upd H' R (.lst ys))) us rss
  | _, _, .nil => .nil
  | _, _, .cons ⟨l, ws, e, n, h, p⟩ q => .cons ⟨l, ws, e, n, by rw [upd_ne n]; exact s _ _ h, rwA_all ((Tups.of s).trans (tups_at hR)) p⟩ (rowsP_keep s hR q)
theorem rowsP_rows {R : Addr} {H : Hp} : ∀ {us : List V} {rss : List (List Rw)}, Paired (RowsP R H) us rss → Paired (RowsA H) us rss
  | _, _, .nil => .nil
  | _, _, .cons ⟨l, ws, e, _, h, p⟩ q => .cons ⟨l, ws, e, h, p⟩ (rowsP_rows q)
def gl (b x : Bool) : Nat := if x != b then 1 else 0
section
variable {P : Program} {w : World} {K : PySem.W.Frag} {mg : Str → Option Value} {base : Heap} {aS a1 a2 aL : Addr} {f : Addr} {fd : FuncData} {C : Addr}
theorem ok_late_rows (F : Fun K "late_rows" "late_rows" s_late_rows f fd) (T : Txt K mg aS a1 a2) (c_row : C8.Cal P w K mg base 1 "row" spRow []) : FnOk P w K mg base CX0 2 f fd ["sign"] spLate := by
  refine F.ok sc_late_rows (fun vs H Q E h => ?_) (fun cdv A outer s H vs Q E hr h => ?_)
  · obtain ⟨b, rfl, _⟩ := h
    rfl
  obtain ⟨b, rfl, q⟩ := h
  refine ⟨_, (pss_cons (ps_set (i := 1) sc_late_rows.nd rfl (Or.inl rfl) (pe_ifExp (pt_cmpR op_eq (pv 0) pe_str (nomark _)) pe_str pe_str))
      (pss_cons (ps_set (i := 2) sc_late_rows.nd rfl (Or.inr rfl) (pe_lc (own := [("heard", 3)]) rfl sc_late_rows.nd (pi_str pe_str) (blkOk_by (N := N_late_rows) (sc := defScope s_late_rows) (by decide +kernel)) (fun _ _ _ _ _ => (pg_name (i := 3) sc_late_rows.nd rfl (Or.inl rfl))) (fun _ _ _ _ _ => pts_nil) (fun _ _ _ _ _ => (pe_callTy call_int1 rfl T.b_int bt_int (pa_cons (pe_cmpR op_ne (pv 3) (pv 0) (nomark _)) pa_nil)))))
      (pss_one (ps_ret (pe_lc (own := [("text", 4)]) rfl sc_late_rows.nd (kTup K rfl (pe_tup (pa_cons (pv 0) (pa_cons (pv 1) pa_nil)))) (blkOk_by (N := N_late_rows) (sc := defScope s_late_rows) (by decide +kernel)) (fun _ _ _ _ _ => (pg_name (i := 4) sc_late_rows.nd rfl (Or.inr rfl))) (fun _ _ _ _ _ => pts_nil) (fun _ _ _ _ _ => (pe_lc (own := [("goal", 5)]) rfl sc_late_rows.nd (kList K rfl (pv 2)) (blkOk_by (N := N_late_rows) (sc := lateSc) (by decide +kernel)) (fun _ _ _ _ _ => (pg_name (i := 5) sc_late_rows.nd rfl (Or.inl rfl))) (fun _ _ _ _ _ => pts_nil) (fun _ _ _ _ _ => (C8.pe_c c_row hr (by decide) rfl (pa_cons (pv 4) (pa_cons (pv 5) pa_nil))))))))))), ?_⟩
  refine ⟨_, rfl, rfl, _, rfl, ?_⟩
  cases b with
  | true =>
    refine iteFd (by decide +kernel) ?_
    rw [show ("0" : Str) = sgn (!true) from s0]
    rw [z01]
    refine ⟨_, rfl, fun D hD => lc_it walk_str (fun i H' => Same H H' ∧ H' D = some (.lst (([false, true].take i).map fun x => V.int (gl true x : Nat)))) ⟨same_new hD _, upd_same⟩ (fun _ _ _ _ => trivial) ?_ ?_⟩
    · rintro i x H1 H2 hi ⟨sm, hd⟩ ⟨rfl, c, hc, rfl⟩
      obtain ⟨x, hx, rfl⟩ := tx_char hc
      have hil := lt_len hx
      refine ⟨rfl, tyI ⟨_, rfl, _, rfl, rfl, .inr ⟨_, rfl, ?_⟩⟩⟩
      rw [sg_ne']
      refine ⟨_, hd, take_len_le _ _ _ (by have : i < 2 := hil; omega), same_at sm hD, ?_⟩
      rw [upd_same, ← take_one _ hx]
      cases x <;> rfl
    · rintro H1 ⟨sm, hd⟩
      rw [tx_size, List.take_of_length_le (Nat.le_refl _)] at hd
      refine ⟨_, rfl, _, rfl, sz rfl, fun T0 hT0 => ⟨_, rfl, ⟨_, SqT.of upd_same⟩, fun R hR => ?_⟩⟩
      have k0 := same_new hT0 (.tup [.str (sgn true), .str (sgn (!true))])
      have hd0 := k0 _ _ hd
      have hDR : D ≠ R := fun z => by rw [z, hR] at hd0; cases hd0
      refine lc_it walk_tup (fun i H' => Same (upd H1 T0 (.tup [.str (sgn true), .str (sgn (!true))])) H' ∧ ∃ us, H' R = some (.lst us) ∧ Paired (RowsP R H') us (([true, !true].take i).map fun x => [r1 [x] (gl true false), r1 [x] (gl true true)])) ⟨same_new hR _, [], upd_same, .nil⟩ (fun i H' _ z => SqT.of (z.1 _ _ upd_same)) ?_ ?_
      · rintro i x H3 H4 hi ⟨sm3, us, hR3, pu⟩ ⟨rfl, hx⟩
        obtain ⟨y, hy, rfl⟩ := List.getElem?_map_some (f := fun x : Bool => V.str (sgn x)) (l := [true, !true]) hx
        have hil := lt_len hy
        have hlu := paired_len pu
        have hd3 := sm3 _ _ hd0
        refine ⟨rfl, tyI ⟨_, rfl, _, rfl, ⟨_, SqL.of hd3⟩, fun D2 hD2 => ?_⟩⟩
        have hD2R : D2 ≠ R := fun z => by rw [z, hR3] at hD2; cases hD2
        refine lc_it walk_list (fun k H' => Same H4 H' ∧ ∃ ws, H' D2 = some (.lst ws) ∧ Paired (RwA H') ws (([false, true].take k).map fun x => r1 [y] (gl true x))) ⟨same_new hD2 _, [], upd_same, .nil⟩ (fun k H' _ z => SqL.of (z.1 _ _ hd3)) ?_ ?_
        · rintro k z H5 H6 hk ⟨sm5, ws, hd5, pw⟩ ⟨rfl, hz⟩
          obtain ⟨g, hg, rfl⟩ := List.getElem?_map_some hz
          have hkl := lt_len hg
          have hlw := paired_len pw
          refine ⟨rfl, tyI ⟨_, rfl, _, rfl, [y], gl true g, rfl, fun H7 v7 s7 a7 => ?_⟩⟩
          have hd7 := s7 _ _ hd5
          refine ⟨_, hd7, ?_, same_at (sm5.trans' s7) hD2, ws ++ [v7], upd_same, ?_⟩
          · rw [List.length_map, List.length_take] at hlw
            exact Nat.lt_of_lt_of_le (show ws.length < 100000 by have : k < 2 := hkl; omega) (by decide)
          · rw [← take_one _ hg]
            exact paired_app (rwA_all ((Tups.of s7).trans (tups_at hd7)) pw) (.cons (a7.keep (tups_at hd7)) .nil)
        · rintro H5 ⟨sm5, ws, hd5, pw⟩
          have pw2 : Paired (RwA H5) ws [r1 [y] (gl true false), r1 [y] (gl true true)] := pw
          have hR5 := sm5 _ _ hR3
          refine ⟨_, hR5, ?_, same_at (sm3.trans' sm5) hR, us ++ [.ref D2], upd_same, ?_⟩
          · rw [List.length_map, List.length_take] at hlu
            exact Nat.lt_of_lt_of_le (show us.length < 100000 by have : i < 2 := hil; omega) (by decide)
          · rw [← take_one _ hy]
            exact paired_app (rowsP_keep (sm5) hR5 pu) (.cons ⟨D2, ws, rfl, hD2R, by rw [upd_ne hD2R]; exact hd5, rwA_all (tups_at hR5) pw2⟩ .nil)
      · rintro H3 ⟨sm3, us, hR3, pu⟩
        exact q _ _ _ ((sm.trans' k0).trans' sm3) hR3 (rowsP_rows pu)
  | false =>
    refine iteTd (by decide +kernel) ?_
    rw [show ("1" : Str) = sgn (!false) from s1]
    rw [z01]
    refine ⟨_, rfl, fun D hD => lc_it walk_str (fun i H' => Same H H' ∧ H' D = some (.lst (([false, true].take i).map fun x => V.int (gl false x : Nat)))) ⟨same_new hD _, upd_same⟩ (fun _ _ _ _ => trivial) ?_ ?_⟩
    · rintro i x H1 H2 hi ⟨sm, hd⟩ ⟨rfl, c, hc, rfl⟩
      obtain ⟨x, hx, rfl⟩ := tx_char hc
      have hil := lt_len hx
      refine ⟨rfl, tyI ⟨_, rfl, _, rfl, rfl, .inr ⟨_, rfl, ?_⟩⟩⟩
      rw [sg_ne']
      refine ⟨_, hd, take_len_le _ _ _ (by have : i < 2 := hil; omega), same_at sm hD, ?_⟩
      rw [upd_same, ← take_one _ hx]
      cases x <;> rfl
    · rintro H1 ⟨sm, hd⟩
      rw [tx_size, List.take_of_length_le (Nat.le_refl _)] at hd
      refine ⟨_, rfl, _, rfl, sz rfl, fun T0 hT0 => ⟨_, rfl, ⟨_, SqT.of upd_same⟩, fun R hR => ?_⟩⟩
      have k0 := same_new hT0 (.tup [.str (sgn false), .str (sgn (!false))])
      have hd0 := k0 _ _ hd
      have hDR : D ≠ R := fun z => by rw [z, hR] at hd0; cases hd0
      refine lc_it walk_tup (fun i H' => Same (upd H1 T0 (.tup [.str (sgn false), .str (sgn (!false))])) H' ∧ ∃ us, H' R = some (.lst us) ∧ Paired (RowsP R H') us (([false, !false].take i).map fun x => [r1 [x] (gl false false), r1 [x] (gl false true)])) ⟨same_new hR _, [], upd_same, .nil⟩ (fun i H' _ z => SqT.of (z.1 _ _ upd_same)) ?_ ?_
      · rintro i x H3 H4 hi ⟨sm3, us, hR3, pu⟩ ⟨rfl, hx⟩
        obtain ⟨y, hy, rfl⟩ := List.getElem?_map_some (f := fun x : Bool => V.str (sgn x)) (l := [false, !false]) hx
        have hil := lt_len hy
        have hlu := paired_len pu
        have hd3 := sm3 _ _ hd0
        refine ⟨rfl, tyI ⟨_, rfl, _, rfl, ⟨_, SqL.of hd3⟩, fun D2 hD2 => ?_⟩⟩
        have hD2R : D2 ≠ R := fun z => by rw [z, hR3] at hD2; cases hD2
        refine lc_it walk_list (fun k H' => Same H4 H' ∧ ∃ ws, H' D2 = some (.lst ws) ∧ Paired (RwA H') ws (([false, true].take k).map fun x => r1 [y] (gl false x))) ⟨same_new hD2 _, [], upd_same, .nil⟩ (fun k H' _ z => SqL.of (z.1 _ _ hd3)) ?_ ?_
        · rintro k z H5 H6 hk ⟨sm5, ws, hd5, pw⟩ ⟨rfl, hz⟩
          obtain ⟨g, hg, rfl⟩ := List.getElem?_map_some hz
          have hkl := lt_len hg
          have hlw := paired_len pw
          refine ⟨rfl, tyI ⟨_, rfl, _, rfl, [y], gl false g, rfl, fun H7 v7 s7 a7 => ?_⟩⟩
          have hd7 := s7 _ _ hd5
          refine ⟨_, hd7, ?_, same_at (sm5.trans' s7) hD2, ws ++ [v7], upd_same, ?_⟩
          · rw [List.length_map, List.length_take] at hlw
            exact Nat.lt_of_lt_of_le (show ws.length < 100000 by have : k < 2 := hkl; omega) (by decide)
          · rw [← take_one _ hg]
            exact paired_app (rwA_all ((Tups.of s7).trans (tups_at hd7)) pw) (.cons (a7.keep (tups_at hd7)) .nil)
        · rintro H5 ⟨sm5, ws, hd5, pw⟩
          have pw2 : Paired (RwA H5) ws [r1 [y] (gl false false), r1 [y] (gl false true)] := pw
          have hR5 := sm5 _ _ hR3
          refine ⟨_, hR5, ?_, same_at (sm3.trans' sm5) hR, us ++ [.ref D2], upd_same, ?_⟩
          · rw [List.length_map, List.length_take] at hlu
            exact Nat.lt_of_lt_of_le (show us.length < 100000 by have : i < 2 := hil; omega) (by decide)
          · rw [← take_one _ hy]
            exact paired_app (rowsP_keep (sm5) hR5 pu) (.cons ⟨D2, ws, rfl, hD2R, by rw [upd_ne hD2R]; exact hd5, rwA_all (tups_at hR5) pw2⟩ .nil)
      · rintro H3 ⟨sm3, us, hR3, pu⟩
        exact q _ _ _ ((sm.trans' k0).trans' sm3) hR3 (rowsP_rows pu)
end
end FY


set_option Elab.async false
set_option linter.all false
set_option maxRecDepth 100000
set_option maxHeartbeats 4000000
namespace FY
open PySem L2 FYR
def stOf : Tm → Stn
  | .byy a b c d _ _ => ⟨2, 1, [⟨.both, [r1 [a] 0, r1 [b] 0, r1 [c] 0, r1 [d] 0]⟩]⟩
  | .keep _ _ => ⟨2, 1, [⟨.both, [r1 [] 0, r1 [false] 0, r1 [] 0, r1 [true] 0]⟩]⟩
  | t => wayOf (rowsT t)
theorem two_ok {rs : List Rw} (h : ∀ r ∈ rs, r.ok 1 1) (hl : rs.length = 4) : (⟨2, 1, [⟨.both, rs⟩]⟩ : Stn).ok := by
  refine ⟨(by decide : 1 ≤ 2), Nat.le_refl 2, Nat.le_refl 1, (by decide : 1 ≤ 2), Nat.le_refl 1, (by decide : 1 ≤ 4), fun s hs => ?_⟩
  obtain rfl : s = ⟨.both, rs⟩ := by simpa using hs
  exact ⟨.inr rfl, hl, h⟩
theorem rowsW_ok (w : W1) : wayOk (rowsW w) := by
  cases w <;> refine ⟨by decide, by decide, fun rs hrs => ?_⟩ <;> simp only [rowsW, List.mem_cons, List.not_mem_nil, or_false] at hrs
  all_goals (first | (rcases hrs with rfl | rfl) | (rcases hrs with rfl))
  all_goals refine ⟨rfl, fun r hr => ?_⟩
  all_goals (simp only [List.mem_cons, List.not_mem_nil, or_false] at hr; rcases hr with rfl | rfl <;> exact r1_ok (by simp) (by decide))
theorem rowsL_ok (b : Bool) : wayOk (rowsLate b) := by
  cases b <;> refine ⟨by decide, by decide, fun rs hrs => ?_⟩ <;> simp only [rowsLate, List.mem_cons, List.not_mem_nil, or_false] at hrs
  all_goals rcases hrs with rfl | rfl
  all_goals refine ⟨rfl, fun r hr => ?_⟩
  all_goals (simp only [List.mem_cons, List.not_mem_nil, or_false] at hr; rcases hr with rfl | rfl <;> exact r1_ok (by simp) (by decide))
theorem rows_ok {t : Tm} (h : t.parts.length = 1) : wayOk (rowsT t) := by
  cases t with
  | one w t => exact rowsW_ok w
  | late b t => exact rowsL_ok b
  | _ => cases h
structure Twos (K : PySem.W.Frag) (mg : Str → Option Value) (aT : Addr) : Prop where
  g_TWOS : ∃ u, mg "TWOS" = some u ∧ RelV (.ref aT) u
  k_TWOS : ∀ H, SqT K H aT [.str "00", .str "01", .str "10", .str "11"]
def spStOf (C : Addr) : Sp := fun vs H Q _ => ∃ v t, vs = [v] ∧ TA H v t ∧ t.isIn = false ∧ t.isThn = false ∧ ∀ H' v', Same H H' → StnA C H' v' (stOf t) → Q v' H'
def twos : List (Bool × Bool) := [(false, false), (false, true), (true, false), (true, true)]
theorem z10 : ("10" : Str) = tx [true, false] := by decide +kernel
section
variable {P : Program} {w : World} {K : PySem.W.Frag} {mg : Str → Option Value} {base : Heap} {aS a1 a2 aL aT : Addr} {f : Addr} {fd : FuncData} {C : Addr}
abbrev s_station_of : Stmt := top 105
abbrev N_station_of : List Str := ["term", "sign", "two"]
theorem sc_station_of : FnScope N_station_of ["term"] (defScope s_station_of) := ⟨rfl, rfl, rfl, by decide +kernel, rfl, by decide +kernel, by decide +kernel⟩
theorem ok_station_of (F : Fun K "station_of" "station_of" s_station_of f fd) (T : Txt K mg aS a1 a2) (U : Twos K mg aT) (mk_Station : C8.Mak P w K mg base 6 "Station" C (spStInit C) []) (c_row : C8.Cal P w K mg base 1 "row" spRow []) (c_kept : C8.Cal P w K mg base 1 "kept" spKept []) (c_rows_of : C8.Cal P w K mg base 3 "rows_of" spRowsOf []) (c_one_way : C8.Cal P w K mg base 8 "one_way" (spOneWay C) []) : FnOk P w K mg base CX0 9 f fd ["term"] (spStOf C) := by
  refine F.ok sc_station_of (fun vs H Q E h => ?_) (fun cdv A outer s H vs Q E hr h => ?_)
  · obtain ⟨v, t, rfl, _⟩ := h
    rfl
  obtain ⟨v, t, rfl, ta, hin, hth, q⟩ := h
  refine ⟨_, (pss_cons (ps_if (pt_cmpR op_eq (pe_ix (kIxT K rfl) (pv 0) pe_int (fun _ _ => rfl)) (C8.pe_gc rfl T.g_BY) (nomark _))
        (pss_one (ps_ret (C8.pe_mk mk_Station hr (by decide) rfl (pa_cons pe_int (pa_cons pe_int (pa_cons (pe_lst (pa_cons (pe_tup (pa_cons pe_str (pa_cons (pe_lc (own := [("sign", 1)]) rfl sc_station_of.nd (pi_str (pe_ix (kIxT K rfl) (pv 0) pe_int (fun _ _ => rfl))) (blkOk_by (N := N_station_of) (sc := defScope s_station_of) (by decide +kernel)) (fun _ _ _ _ _ => (pg_name (i := 1) sc_station_of.nd rfl (Or.inl rfl))) (fun _ _ _ _ _ => pts_nil) (fun _ _ _ _ _ => (C8.pe_c c_row hr (by decide) rfl (pa_cons (pv 1) (pa_cons pe_int pa_nil))))) pa_nil))) pa_nil)) pa_nil))))))
        pss_nil)
        (pss_cons (ps_if (pt_cmpR op_eq (pe_ix (kIxT K rfl) (pv 0) pe_int (fun _ _ => rfl)) (C8.pe_gc rfl T.g_KEEP) (nomark _))
        (pss_one (ps_ret (C8.pe_mk mk_Station hr (by decide) rfl (pa_cons pe_int (pa_cons pe_int (pa_cons (pe_lst (pa_cons (pe_tup (pa_cons pe_str (pa_cons (pe_lc (own := [("two", 2)]) rfl sc_station_of.nd (kTup K rfl (C8.pe_gc rfl U.g_TWOS)) (blkOk_by (N := N_station_of) (sc := defScope s_station_of) (by decide +kernel)) (fun _ _ _ _ _ => (pg_name (i := 2) sc_station_of.nd rfl (Or.inl rfl))) (fun _ _ _ _ _ => pts_nil) (fun _ _ _ _ _ => (C8.pe_c c_row hr (by decide) rfl (pa_cons (C8.pe_c c_kept hr (by decide) rfl (pa_cons (pv 2) pa_nil)) (pa_cons pe_int pa_nil))))) pa_nil))) pa_nil)) pa_nil))))))
        pss_nil)
        (pss_one (ps_ret (C8.pe_c c_one_way hr (by decide) rfl (pa_cons (C8.pe_c c_rows_of hr (by decide) rfl (pa_cons (pv 0) pa_nil)) pa_nil)))))), ?_⟩
  cases t with
  | inn => cases hin
  | thn _ _ => cases hth
  | one w t =>
    have ta0 := ta
    obtain ⟨a, x, rfl, h, r⟩ := ta
    refine ⟨_, rfl, _, _, _, _, rfl, rfl, SqT.of h, rfl, rfl, _, rfl, iteFd (by cases w <;> decide +kernel) ?_⟩
    refine ⟨_, rfl, _, _, _, _, rfl, rfl, SqT.of h, rfl, rfl, _, rfl, iteFd (by cases w <;> decide +kernel) ?_⟩
    exact ⟨_, rfl, _, .one w t, rfl, ta0, rfl, fun H1 R us s1 hR pr => ⟨R, us, _, rfl, hR, pr, rows_ok rfl, fun H2 v' s2 st => q _ _ (s1.trans' s2) st⟩⟩
  | late b t =>
    have ta0 := ta
    obtain ⟨a, x, rfl, h, r⟩ := ta
    refine ⟨_, rfl, _, _, _, _, rfl, rfl, SqT.of h, rfl, rfl, _, rfl, iteFd (by decide +kernel) ?_⟩
    refine ⟨_, rfl, _, _, _, _, rfl, rfl, SqT.of h, rfl, rfl, _, rfl, iteFd (by decide +kernel) ?_⟩
    exact ⟨_, rfl, _, .late b t, rfl, ta0, rfl, fun H1 R us s1 hR pr => ⟨R, us, _, rfl, hR, pr, rows_ok rfl, fun H2 v' s2 st => q _ _ (s1.trans' s2) st⟩⟩
  | byy b1 b2 b3 b4 t u =>
    obtain ⟨a, x, y, rfl, h, r⟩ := ta
    refine ⟨_, rfl, _, _, _, _, rfl, rfl, SqT.of h, rfl, rfl, _, rfl, iteTd (by decide +kernel) ?_⟩
    refine ⟨_, rfl, _, _, _, _, rfl, rfl, SqT.of h, rfl, _, rfl, fun D hD => lc_it walk_str (fun i H' => Same H H' ∧ ∃ ws, H' D = some (.lst ws) ∧ Paired (RwA H') ws (([b1, b2, b3, b4].take i).map fun x => r1 [x] 0)) ⟨same_new hD _, [], upd_same, .nil⟩ (fun _ _ _ _ => trivial) ?_ ?_⟩
    · rintro i x H1 H2 hi ⟨sm, ws, hd, pw⟩ ⟨rfl, c, hc, rfl⟩
      obtain ⟨x, hx, rfl⟩ := tx_char hc
      have hil : i < 4 := lt_len hx
      have hlw := paired_len pw
      refine ⟨rfl, tyI ⟨_, rfl, [x], 0, rfl, fun H3 v3 s3 a3 => ?_⟩⟩
      have hd3 := s3 _ _ hd
      refine ⟨_, hd3, ?_, same_at (sm.trans' s3) hD, ws ++ [v3], upd_same, ?_⟩
      · rw [List.length_map, List.length_take] at hlw
        exact Nat.lt_of_lt_of_le (show ws.length < 100000 by omega) (by decide)
      · rw [← take_one _ hx]
        exact paired_app (rwA_all ((Tups.of s3).trans (tups_at hd3)) pw) (.cons (a3.keep (tups_at hd3)) .nil)
    · rintro H1 ⟨sm, ws, hd, pw⟩
      refine ⟨sz rfl, fun T0 hT0 => ⟨sz rfl, fun L hL => ?_⟩⟩
      have k0 := same_new hT0 (.tup [.str "12", .ref D])
      have kL := same_new hL (.lst [.ref T0])
      have pw2 : Paired (RwA H1) ws [r1 [b1] 0, r1 [b2] 0, r1 [b3] 0, r1 [b4] 0] := pw
      refine make_st (t := ⟨2, 1, [⟨.both, [r1 [b1] 0, r1 [b2] 0, r1 [b3] 0, r1 [b4] 0]⟩]⟩) upd_same (.cons ⟨T0, D, ws, rfl, kL _ _ upd_same, kL _ _ (k0 _ _ hd), rwA_all (Tups.of (k0.trans' kL)) pw2⟩ .nil) (two_ok ?_ rfl) fun H' v s st => q _ _ (((sm.trans' k0).trans' kL).trans' s) st
      intro r hr
      simp only [List.mem_cons, List.not_mem_nil, or_false] at hr
      rcases hr with rfl | rfl | rfl | rfl <;> exact r1_ok (by simp) (by decide)
  | keep t u =>
    obtain ⟨a, x, y, rfl, h, r⟩ := ta
    refine ⟨_, rfl, _, _, _, _, rfl, rfl, SqT.of h, rfl, rfl, _, rfl, iteFd (by decide +kernel) ?_⟩
    refine ⟨_, rfl, _, _, _, _, rfl, rfl, SqT.of h, rfl, rfl, _, rfl, iteTd (by decide +kernel) ?_⟩
    have hk : [V.str "00", V.str "01", V.str "10", V.str "11"] = twos.map fun p => V.str (tx [p.1, p.2]) := by rw [z00, z01, z10, z11]; rfl
    have hT : ∀ H, SqT K H aT (twos.map fun p => V.str (tx [p.1, p.2])) := fun H => by rw [← hk]; exact U.k_TWOS H
    refine ⟨_, rfl, ⟨_, hT _⟩, fun D hD => lc_it walk_tup (fun i H' => Same H H' ∧ ∃ ws, H' D = some (.lst ws) ∧ Paired (RwA H') ws ((twos.take i).map fun p => r1 (if p.2 then [p.1] else []) 0)) ⟨same_new hD _, [], upd_same, .nil⟩ (fun i H' _ z => hT _) ?_ ?_⟩
    · rintro i x H1 H2 hi ⟨sm, ws, hd, pw⟩ ⟨rfl, hx⟩
      obtain ⟨⟨y1, y2⟩, hy, rfl⟩ := List.getElem?_map_some hx
      have hil : i < 4 := lt_len hy
      have hlw := paired_len pw
      refine ⟨rfl, tyI ⟨_, rfl, y1, y2, rfl, (if y2 then [y1] else []), 0, rfl, fun H3 v3 s3 a3 => ?_⟩⟩
      have hd3 := s3 _ _ hd
      refine ⟨_, hd3, ?_, same_at (sm.trans' s3) hD, ws ++ [v3], upd_same, ?_⟩
      · rw [List.length_map, List.length_take] at hlw
        exact Nat.lt_of_lt_of_le (show ws.length < 100000 by omega) (by decide)
      · rw [← take_one _ hy]
        exact paired_app (rwA_all ((Tups.of s3).trans (tups_at hd3)) pw) (.cons (a3.keep (tups_at hd3)) .nil)
    · rintro H1 ⟨sm, ws, hd, pw⟩
      refine ⟨sz rfl, fun T0 hT0 => ⟨sz rfl, fun L hL => ?_⟩⟩
      have k0 := same_new hT0 (.tup [.str "12", .ref D])
      have kL := same_new hL (.lst [.ref T0])
      have pw2 : Paired (RwA H1) ws [r1 [] 0, r1 [false] 0, r1 [] 0, r1 [true] 0] := pw
      refine make_st (t := ⟨2, 1, [⟨.both, [r1 [] 0, r1 [false] 0, r1 [] 0, r1 [true] 0]⟩]⟩) upd_same (.cons ⟨T0, D, ws, rfl, kL _ _ upd_same, kL _ _ (k0 _ _ hd), rwA_all (Tups.of (k0.trans' kL)) pw2⟩ .nil) (two_ok ?_ rfl) fun H' v s st => q _ _ (((sm.trans' k0).trans' kL).trans' s) st
      intro r hr
      simp only [List.mem_cons, List.not_mem_nil, or_false] at hr
      rcases hr with rfl | rfl | rfl | rfl <;> exact r1_ok (by simp) (by decide)
end
end FY


set_option Elab.async false
set_option linter.all false
set_option maxRecDepth 100000
set_option maxHeartbeats 4000000
namespace FY
open PySem L2 FYR
def outerN : Tm → Nat
  | .inn => 1
  | .one _ t => outerN t
  | .late _ t => outerN t
  | .byy _ _ _ _ t u => outerN t + outerN u
  | .keep t u => outerN t + outerN u
  | .thn t _ => outerN t
def sumO : List Tm → Nat
  | [] => 0
  | t :: r => outerN t + sumO r
theorem sum_outer : ∀ ts : List Tm, (ts.map fun t => (outerN t : Int)).sum = sumO ts
  | [] => rfl
  | t :: r => by simp [sumO, sum_outer r]
theorem outer_parts {t : Tm} (h : t.isIn = false) (h2 : t.isThn = false) : sumO t.parts = outerN t := by
  cases t with
  | inn => cases h
  | thn _ _ => cases h2
  | _ => simp [Tm.parts, sumO, outerN]
def spOuter (n : Nat) : Sp := fun vs H Q _ => ∃ v t, vs = [v] ∧ TA H v t ∧ t.nodes ≤ n ∧ t.nodes ≤ 40 ∧ ∀ H', Same H H' → Q (.int (outerN t)) H'
def spStFor (C : Addr) : Sp := fun vs H Q _ => ∃ v t, vs = [v] ∧ TA H v t ∧ t.isIn = false ∧ t.isThn = false ∧ t.nodes ≤ 9 ∧ ∀ H' v', Same H H' → StnA C H' v' (stOf t) → Q v' H'
def spIns (C : Addr) : Sp := fun vs H Q _ => ∃ v t, vs = [v] ∧ StnA C H v t ∧ Q (.int t.ins) H
def spOuts (C : Addr) : Sp := fun vs H Q _ => ∃ v t, vs = [v] ∧ StnA C H v t ∧ Q (.int t.outs) H
section
variable {P : Program} {w : World} {K : PySem.W.Frag} {mg : Str → Option Value} {base : Heap} {aS a1 a2 aL aT : Addr} {f : Addr} {fd : FuncData} {C : Addr}
abbrev s_outer_ins : Stmt := top 106
abbrev N_outer_ins : List Str := ["term", "parts", "part"]
theorem sc_outer_ins : FnScope N_outer_ins ["term"] (defScope s_outer_ins) := ⟨rfl, rfl, rfl, by decide +kernel, rfl, by decide +kernel, by decide +kernel⟩
theorem step_outer_ins {n : Nat} (F : Fun K "outer_ins" "outer_ins" s_outer_ins f fd) (T : Txt K mg aS a1 a2) (c_parts_of : C8.Cal P w K mg base 1 "parts_of" spPartsOf []) (c_outer_ins : C8.Cal P w K mg base (n + 1) "outer_ins" (spOuter n) []) : FnOk P w K mg base CX0 (n + 2) f fd ["term"] (spOuter (n + 1)) := by
  refine F.ok sc_outer_ins (fun vs H Q E h => ?_) (fun cdv A outer s H vs Q E hr h => ?_)
  · obtain ⟨b, t, rfl, _⟩ := h
    rfl
  obtain ⟨v, t, rfl, ta, hn, h9, q⟩ := h
  refine ⟨_, (pss_cons (ps_if (pt_cmpR (kEqD K rfl hr.units) (pv 0) (C8.pe_gc rfl T.g_IN) (nomark _))
        (pss_one (ps_ret pe_int))
        pss_nil)
        (pss_cons (ps_set (i := 1) sc_outer_ins.nd rfl (Or.inl rfl) (C8.pe_c c_parts_of hr (by omega) rfl (pa_cons (pv 0) pa_nil)))
        (pss_one (ps_ret (pe_ifExp (pt_cmpR op_eq (pe_ix (kIxT K rfl) (pv 0) pe_int (fun _ _ => rfl)) (C8.pe_gc rfl T.g_THEN) (nomark _)) (C8.pe_c c_outer_ins hr (by omega) rfl (pa_cons (pe_ix (kIxT K rfl) (pv 1) pe_int (fun _ _ => rfl)) pa_nil)) (pe_callB (kSum K rfl rfl) rfl T.b_sum bt_sum (pa_cons (pe_lc (own := [("part", 2)]) rfl sc_outer_ins.nd (kTup K rfl (pv 1)) (blkOk_by (N := N_outer_ins) (sc := defScope s_outer_ins) (by decide +kernel)) (fun _ _ _ _ _ => (pg_name (i := 2) sc_outer_ins.nd rfl (Or.inl rfl))) (fun _ _ _ _ _ => pts_nil) (fun _ _ _ _ _ => (C8.pe_c c_outer_ins hr (by omega) rfl (pa_cons (pv 2) pa_nil)))) pa_nil))))))), ?_⟩
  refine ⟨_, rfl, _, _, ta.dp, .str _, shp_tm h9, shp_in, _, rfl, ?_⟩
  rw [eqv_in]
  cases hin : t.isIn with
  | true =>
    have e : t = .inn := by cases t <;> first | rfl | cases hin
    subst e
    exact iteT (q _ (Same.refl _))
  | false =>
    refine iteF ?_
    have hf := parts_few t
    refine ⟨_, rfl, v, t, rfl, ta, Nat.le_trans t.dep_le (by omega), fun H1 p ws s1 hp1 pr1 => ?_⟩
    have hwl := paired_len pr1
    obtain ⟨a, us, rfl, ha, _⟩ := (ta.keep (Tups.of s1)).node hin
    refine ⟨_, rfl, _, _, _, _, rfl, rfl, SqT.of ha, at0, rfl, _, rfl, ?_⟩
    rw [word_then]
    cases hth : t.isThn with
    | true =>
      refine iteT ?_
      cases t with
      | thn t u =>
        cases pr1 with
        | @cons x1 _ _ _ r1 q1 =>
        cases q1 with
        | @cons x2 _ _ _ r2 q2 =>
        cases q2 with
        | nil =>
        have hnd : (Tm.thn t u).nodes = t.nodes + u.nodes + 1 := rfl
        exact ⟨_, rfl, _, _, _, _, rfl, rfl, SqT.of hp1, rfl, x1, t, rfl, r1, by omega, by omega, fun H2 s2 => q _ (s1.trans' s2)⟩
      | _ => cases hth
    | false =>
      refine iteF ⟨_, rfl, _, rfl, ⟨_, SqT.of hp1⟩, fun D hD => lc_it walk_tup (fun i H' => Same H1 H' ∧ H' D = some (.lst (((t.parts.take i).map fun u => (outerN u : Int)).map V.int))) ⟨same_new hD _, upd_same⟩ (fun i H' _ z => SqT.of (z.1 _ _ hp1)) ?_ ?_⟩
      · rintro i x H3 H4 hi ⟨sm3, hd3⟩ ⟨rfl, hx⟩
        obtain ⟨u, hu, hxu⟩ := paired_get pr1 hx
        have hun := parts_nodes (List.mem_of_getElem? hu)
        have hil := lt_len hu
        refine ⟨rfl, tyI ⟨_, rfl, x, u, rfl, hxu.keep (Tups.of sm3), by omega, by omega, fun H5 s5 => ?_⟩⟩
        refine ⟨_, s5 _ _ hd3, ?_, same_at (sm3.trans' s5) hD, ?_⟩
        · rw [List.length_map]
          exact take_len_le _ _ _ (by omega)
        · rw [upd_same, ← take_one _ hu]
          simp
      · rintro H3 ⟨sm3, hd3⟩
        rw [hwl, List.take_of_length_le (Nat.le_refl _)] at hd3
        refine ⟨_, _, rfl, SqL.of hd3, ?_⟩
        rw [sum_outer, outer_parts hin hth]
        exact q _ (s1.trans' sm3)
theorem ok_outer_ins (F : Fun K "outer_ins" "outer_ins" s_outer_ins f fd) (T : Txt K mg aS a1 a2) (hm : mg "outer_ins" = some (.ref f)) (hk : PySem.W.keepIn K (.ref f) = true) (hb : Binds K fd ["term"] []) (c_parts_of : C8.Cal P w K mg base 1 "parts_of" spPartsOf []) : ∀ n, C8.Cal P w K mg base (n + 1) "outer_ins" (spOuter n) []
  | 0 => ⟨f, fd, _, [], ⟨by rintro vs H Q E ⟨b, t, rfl, _⟩; rfl, by
      rintro A outer s H args us vs Q E hr e0 hb r ⟨b, t, rfl, _, hn, _⟩
      have := t.nodes_pos
      omega⟩, hm, hk, hb, .nil⟩
  | n + 1 => ⟨f, fd, _, [], step_outer_ins F T c_parts_of (ok_outer_ins F T hm hk hb c_parts_of n), hm, hk, hb, .nil⟩
abbrev s_Station_ins : Stmt := inClass (top 40) 1
abbrev N_Station_ins : List Str := ["self"]
theorem sc_Station_ins : FnScope N_Station_ins ["self"] (defScope s_Station_ins) := ⟨rfl, rfl, rfl, by decide +kernel, rfl, by decide +kernel, by decide +kernel⟩
theorem ok_Station_ins (F : Fun K "ins" "Station.ins" s_Station_ins f fd) (S : StC K mg C) : FnOk P w K mg base CX0 1 f fd ["self"] (spIns C) := by
  refine F.ok sc_Station_ins (fun vs H Q E h => ?_) (fun cdv A outer s H vs Q E hr h => ?_)
  · obtain ⟨b, t, rfl, _⟩ := h
    rfl
  obtain ⟨v, t, rfl, ⟨a, dx, p, ps, rfl, ha, hp, pr⟩, q⟩ := h
  refine ⟨_, (pss_one (ps_ret (kFld K rfl (pv 0)))), ?_⟩
  exact ⟨_, rfl, a, C, dx, _, _, rfl, ha, S.cl, S.nI, rfl, q⟩
abbrev s_Station_outs : Stmt := inClass (top 40) 2
abbrev N_Station_outs : List Str := ["self"]
theorem sc_Station_outs : FnScope N_Station_outs ["self"] (defScope s_Station_outs) := ⟨rfl, rfl, rfl, by decide +kernel, rfl, by decide +kernel, by decide +kernel⟩
theorem ok_Station_outs (F : Fun K "outs" "Station.outs" s_Station_outs f fd) (S : StC K mg C) : FnOk P w K mg base CX0 1 f fd ["self"] (spOuts C) := by
  refine F.ok sc_Station_outs (fun vs H Q E h => ?_) (fun cdv A outer s H vs Q E hr h => ?_)
  · obtain ⟨b, t, rfl, _⟩ := h
    rfl
  obtain ⟨v, t, rfl, ⟨a, dx, p, ps, rfl, ha, hp, pr⟩, q⟩ := h
  refine ⟨_, (pss_one (ps_ret (kFld K rfl (pv 0)))), ?_⟩
  exact ⟨_, rfl, a, C, dx, _, _, rfl, ha, S.cl, S.nO, rfl, q⟩
end
end FY


set_option Elab.async false
set_option linter.all false
set_option maxRecDepth 100000
set_option maxHeartbeats 4000000
namespace FY
open PySem L2 FYR
theorem kStar {X : Cx} (K : PySem.W.Frag) (hK : X.K = K) {e : Expr} {es : List Expr} {p : Pos} {te : TE} {t : L2.TA} (he : PE X e te) (hr : PA X es t) (hs : starEach (.Starred e p :: es) X.env = (true, eval e X.env) :: starEach es X.env := by rfl) : PA X (.Starred e p :: es) (StX.tStar K te t) := by subst hK; exact StX.pa_star he hr hs
abbrev Pipe := Nat × Nat × Nat × Nat
def PipeA (H : Hp) (v : V) (p : Pipe) : Prop := ∃ t, v = .ref t ∧ H t = some (.tup [.int p.1, .int p.2.1, .int p.2.2.1, .int p.2.2.2])
abbrev Ln := Option (Nat × Nat)
def LnA (H : Hp) (v : V) : Ln → Prop
  | none => v = .non
  | some l => ∃ t, v = .ref t ∧ H t = some (.tup [.int l.1, .int l.2])
def pipesOf (n : Nat) : Nat → List Ln → List Pipe
  | _, [] => []
  | p, none :: r => pipesOf n (p + 1) r
  | p, some l :: r => (l.1, l.2, n, p) :: pipesOf n (p + 1) r
theorem pipesOf_app (n : Nat) : ∀ (p : Nat) (a b : List Ln), pipesOf n p (a ++ b) = pipesOf n p a ++ pipesOf n (p + a.length) b
  | p, [], b => by simp [pipesOf]
  | p, none :: r, b => by simp [pipesOf, pipesOf_app n (p + 1) r b]; congr 1; omega
  | p, some l :: r, b => by simp [pipesOf, pipesOf_app n (p + 1) r b]; congr 1; omega
theorem StnA.but2 {C : Addr} {H H' : Hp} (k : ∀ b o, (∀ xs, o ≠ .lst xs) → H b = some o → H' b = some o) {v : V} {t : Stn} (h : StnA C H v t) : StnA C H' v t := by
  obtain ⟨a, dx, p, ps, e, h1, h2, pr⟩ := h
  exact ⟨a, dx, p, ps, e, k _ _ (fun xs z => nomatch z) h1, k _ _ (fun xs z => nomatch z) h2, sgA_all (fun b xs e => k b _ (fun xs z => nomatch z) e) pr⟩
/-- all but lists stay -/
def NL (H H' : Hp) : Prop := ∀ b o, (∀ xs, o ≠ .lst xs) → H b = some o → H' b = some o
theorem NL.of {H H' : Hp} (s : Same H H') : NL H H' := fun b o _ e => s b o e
theorem NL.trans {H H1 H2 : Hp} (a : NL H H1) (b : NL H1 H2) : NL H H2 := fun x o n e => b x o n (a x o n e)
theorem NL.tups {H H' : Hp} (a : NL H H') : Tups H H' := fun b xs e => a b _ (fun ys z => nomatch z) e
theorem NL.at {H : Hp} {L : Addr} {xs : List V} {o : HO} (h : H L = some (.lst xs)) : NL H (upd H L o) := fun b u n e => by
  rw [upd_ne (fun z => by rw [z, h] at e; exact n xs (Option.some.inj e).symm)]
  exact e
theorem stn_all {C : Addr} {H H' : Hp} (k : NL H H') : ∀ {vs : List V} {ts : List Stn}, Paired (StnA C H) vs ts → Paired (StnA C H') vs ts
  | _, _, .nil => .nil
  | _, _, .cons r q => .cons (r.but2 k) (stn_all k q)
theorem pipe_all {H H' : Hp} (k : Tups H H') : ∀ {vs : List V} {ts : List Pipe}, Paired (PipeA H) vs ts → Paired (PipeA H') vs ts
  | _, _, .nil => .nil
  | _, _, .cons ⟨t, e, h⟩ q => .cons ⟨t, e, k _ _ h⟩ (pipe_all k q)
theorem LnA.keep {H H' : Hp} (k : Tups H H') {v : V} : ∀ {l : Ln}, LnA H v l → LnA H' v l
  | none, h => h
  | some _, ⟨t, e, h⟩ => ⟨t, e, k _ _ h⟩
def dflds (S Pp : Addr) : List (Str × V) := [("own_stations", .ref S), ("own_pipes", .ref Pp)]
structure DrA (CD C : Addr) (H : Hp) (d S Pp : Addr) (ts : List Stn) (ps : List Pipe) : Prop where
  ob : ∃ dx, H d = some (.ins CD dx (dflds S Pp))
  st : ∃ vs, H S = some (.lst vs) ∧ Paired (StnA C H) vs ts
  pp : ∃ ws, H Pp = some (.lst ws) ∧ Paired (PipeA H) ws ps
  ne : S ≠ Pp
structure DrC (K : PySem.W.Frag) (mg : Str → Option Value) (CD : Addr) : Prop where
  cl : Cls K CD
  nS : NoAttr K CD "own_stations"
  nP : NoAttr K CD "own_pipes"
theorem pfD (x y : V) : putF "own_pipes" y [("own_stations", x)] = ([("own_stations", x), ("own_pipes", y)] : List (Str × V)) := by
  show (if ("own_stations" : Str) = "own_pipes" then _ else _) = _
  rw [if_neg (by decide +kernel)]
  rfl
def spDrInit (CD C : Addr) : Sp := fun vs H Q _ => ∃ d dx, vs = [.ref d] ∧ H d = some (.ins CD dx []) ∧ ∀ H' S Pp, (∀ b o, b ≠ d → H b = some o → H' b = some o) → H S = none → H Pp = none → DrA CD C H' d S Pp [] [] → Q .non H'
def spAdd (CD C : Addr) : Sp := fun vs H Q _ => ∃ (d S Pp Ll : Addr) (v : V) (t : Stn) (ts : List Stn) (ps : List Pipe) (lv : List V) (ls : List Ln), vs = [.ref d, v, .ref Ll] ∧ DrA CD C H d S Pp ts ps ∧ StnA C H v t ∧ H Ll = some (.lst lv) ∧ Paired (LnA H) lv ls ∧ Ll ≠ S ∧ Ll ≠ Pp ∧ ts.length ≤ 1000 ∧ ps.length ≤ 1000 ∧ ls.length ≤ 1000 ∧
  ∀ H', (∀ b o, b ≠ S → b ≠ Pp → H b = some o → H' b = some o) → DrA CD C H' d S Pp (ts ++ [t]) (ps ++ pipesOf ts.length 0 ls) → Q (.int ts.length) H'
section
variable {P : Program} {w : World} {K : PySem.W.Frag} {mg : Str → Option Value} {base : Heap} {aS a1 a2 aL aT : Addr} {f : Addr} {fd : FuncData} {C CD : Addr}
abbrev s_Draft___init__ : Stmt := inClass (top 107) 0
abbrev N_Draft___init__ : List Str := ["self"]
theorem sc_Draft___init__ : FnScope N_Draft___init__ ["self"] (defScope s_Draft___init__) := ⟨rfl, rfl, rfl, by decide +kernel, rfl, by decide +kernel, by decide +kernel⟩
theorem ok_Draft_init (F : Fun K "__init__" "Draft.__init__" s_Draft___init__ f fd) (D : DrC K mg CD) : FnOk P w K mg base CX0 1 f fd ["self"] (spDrInit CD C) := by
  refine F.ok sc_Draft___init__ (fun vs H Q E h => ?_) (fun cdv A outer s H vs Q E hr h => ?_)
  · obtain ⟨d, dx, rfl, _⟩ := h
    rfl
  obtain ⟨d, dx, rfl, hd, q⟩ := h
  refine ⟨_, (pss_cons (kSetF K rfl (pv 0) (pe_lst pa_nil))
        (pss_one (kSetF K rfl (pv 0) (pe_lst pa_nil)))), ?_⟩
  refine ⟨Nat.zero_le _, fun S hS => ?_⟩
  have n1 : d ≠ S := ne_of_none hd hS
  refine ⟨_, rfl, d, CD, dx, [], rfl, (upd_ne n1).trans hd, D.cl, D.nS, by decide, ?_⟩
  refine ⟨Nat.zero_le _, fun Pp hPp => ?_⟩
  have n2 : d ≠ Pp := fun z => by rw [← z, upd_same] at hPp; cases hPp
  have n3 : S ≠ Pp := fun z => by rw [← z, upd_ne (Ne.symm n1), upd_same] at hPp; cases hPp
  have hP0 : H Pp = none := by rw [upd_ne (Ne.symm n2), upd_ne (Ne.symm n3)] at hPp; exact hPp
  refine ⟨_, rfl, d, CD, dx, [("own_stations", .ref S)], rfl, (upd_ne n2).trans upd_same, D.cl, D.nP, Nat.lt_of_lt_of_le (Nat.lt_succ_self 1) (by decide : 2 ≤ 1000), ?_⟩
  rw [pfD]
  refine q _ S Pp (fun b o hb e => ?_) hS hP0 ⟨⟨dx, upd_same⟩, ⟨[], ?_, .nil⟩, ⟨[], ?_, .nil⟩, n3⟩
  · rw [upd_ne hb, upd_ne (ne_of_none e hP0), upd_ne hb, upd_ne (ne_of_none e hS)]
    exact e
  · rw [upd_ne (Ne.symm n1), upd_ne n3, upd_ne (Ne.symm n1), upd_same]
  · rw [upd_ne (Ne.symm n2), upd_same]
end
end FY


set_option Elab.async false
set_option linter.all false
set_option maxRecDepth 100000
set_option maxHeartbeats 4000000
namespace FY
open PySem L2 FYR
theorem lkS (S Pp : Addr) : (dflds S Pp).lookup ("own_stations" : Str) = some (.ref S) := rfl
theorem lkP (S Pp : Addr) : (dflds S Pp).lookup ("own_pipes" : Str) = some (.ref Pp) := rfl
section
variable {P : Program} {w : World} {K : PySem.W.Frag} {mg : Str → Option Value} {base : Heap} {aS a1 a2 aL aT : Addr} {f : Addr} {fd : FuncData} {C CD : Addr}
abbrev s_Draft_add : Stmt := inClass (top 107) 1
abbrev N_Draft_add : List Str := ["self", "station", "lines", "number", "position", "line"]
theorem sc_Draft_add : FnScope N_Draft_add ["self", "station", "lines"] (defScope s_Draft_add) := ⟨rfl, rfl, rfl, by decide +kernel, rfl, by decide +kernel, by decide +kernel⟩
theorem ok_Draft_add (F : Fun K "add" "Draft.add" s_Draft_add f fd) (T : Txt K mg aS a1 a2) (D : DrC K mg CD) : FnOk P w K mg base CX0 1 f fd ["self", "station", "lines"] (spAdd CD C) := by
  refine F.ok sc_Draft_add (fun vs H Q E h => ?_) (fun cdv A outer s H vs Q E hr h => ?_)
  · obtain ⟨d, S, Pp, Ll, v, t, ts, ps, lv, ls, rfl, _⟩ := h
    rfl
  obtain ⟨d, S, Pp, Ll, v, t, ts, ps, lv, ls, rfl, ⟨⟨dx, hd⟩, ⟨vs, hS, prS⟩, ⟨ws, hP, prP⟩, hne⟩, hv, hL, prL, nLS, nLP, m1, m2, m3, q⟩ := h
  have lS := paired_len prS
  have lP := paired_len prP
  have lL := paired_len prL
  have ndS : d ≠ S := fun z => by rw [z, hS] at hd; cases hd
  have ndP : d ≠ Pp := fun z => by rw [z, hP] at hd; cases hd
  refine ⟨_, (pss_cons (ps_set (i := 3) sc_Draft_add.nd rfl (Or.inl rfl) (pe_callB (kLen K rfl) rfl T.b_len bt_len (pa_cons (kFld K rfl (pv 0)) pa_nil)))
        (pss_cons (ps_expr (kBm K rfl PySem.F.plainAttrs_list PySem.F.slot_list_append PySem.F.type_list_append mt_append (kFld K rfl (pv 0)) (pa_cons (pv 1) pa_nil)))
        (pss_cons (ps_for PassesOwn.never rfl (kEnum K rfl rfl T.b_enumerate (pa_cons (pv 2) pa_nil)) (kTupG (n := 2) K rfl rfl (pgs_cons (pg_name (i := 4) sc_Draft_add.nd rfl (Or.inl rfl)) (pgs_cons (pg_name (i := 5) sc_Draft_add.nd rfl (Or.inl rfl)) pgs_nil)))
        (pss_one (ps_if (pt_cmp (pc_notN (pv 5)))
        (pss_one (ps_expr (kBm K rfl PySem.F.plainAttrs_list PySem.F.slot_list_append PySem.F.type_list_append mt_append (kFld K rfl (pv 0)) (pa_cons (pe_tup (kStar K rfl (pv 5) (pa_cons (pv 3) (pa_cons (pv 4) pa_nil)))) pa_nil))))
        pss_nil)))
        (pss_one (ps_ret (pv 3)))))), ?_⟩
  refine ⟨_, rfl, d, CD, dx, _, _, rfl, hd, D.cl, D.nS, lkS S Pp, _, _, rfl, .inl (SqL.of hS), ?_⟩
  rw [lS]
  refine ⟨_, rfl, d, CD, dx, _, _, rfl, hd, D.cl, D.nS, lkS S Pp, .inl ⟨rfl, _, SqL.of hS⟩, _, rfl, S, vs, v, rfl, rfl, hS, ?_, ?_⟩
  · exact Nat.lt_of_lt_of_le (show vs.length < 100000 by omega) (by decide)
  refine ⟨_, rfl, Ll, _, rfl, SqL.of ((upd_ne nLS).trans hL), for_it (walk_enum (xs := lv)) (fun i σ H' => ∃ (z4 z5 : Option V) (wx : List V), σ = [some (.ref d), some v, some (.ref Ll), some (.int ts.length), z4, z5] ∧ (∀ b o, b ≠ S → b ≠ Pp → H b = some o → H' b = some o) ∧ H' S = some (.lst (vs ++ [v])) ∧ H' Pp = some (.lst (ws ++ wx)) ∧ Paired (PipeA H') wx (pipesOf ts.length 0 (ls.take i)) ∧ wx.length ≤ i) ?h0 ?hG ?hs ?hd⟩
  case h0 => exact ⟨_, _, [], rfl, fun b o h1 h2 e => by rw [upd_ne h1]; exact e, upd_same, by rw [upd_ne (Ne.symm hne), List.append_nil]; exact hP, by simp [pipesOf]; exact .nil, Nat.le_refl _⟩
  case hG => exact fun i σ H' _ ⟨_, _, _, _, k, _⟩ => SqL.of (k _ _ nLS nLP hL)
  case hs =>
    rintro i x σ H1 H2 hi ⟨z4, z5, wx, rfl, kp, hS1, hP1, pw, hwx⟩ ⟨T0, p1, p2, rfl, hT0, rfl, hp1, hp2⟩
    obtain ⟨l, hl, hx⟩ := paired_get prL hp2
    have hil := lt_len hl
    obtain rfl : V.int (i : Nat) = p1 := by simpa using hp1
    have k0 := same_new hT0 (.tup [.int (i : Nat), p2])
    have tkp : Tups H H1 := fun b xs e => kp b _ (fun z => by rw [z, hS] at e; cases e) (fun z => by rw [z, hP] at e; cases e) e
    have hx1 := (hx.keep tkp).keep (Tups.of k0)
    refine ⟨_, _, rfl, SqT.of upd_same, rfl, _, _, rfl, _, _, rfl, rfl, ?_⟩
    have ptk : pipesOf ts.length 0 (ls.take (i + 1)) = pipesOf ts.length 0 (ls.take i) ++ pipesOf ts.length i [l] := by
      rw [List.take_succ, hl]
      show pipesOf ts.length 0 (ls.take i ++ [l]) = _
      rw [pipesOf_app, List.length_take, Nat.zero_add, Nat.min_eq_left (by omega)]
    cases l with
    | none =>
      obtain rfl : p2 = .non := hx1
      refine ⟨_, rfl, _, rfl, iteFd (by decide +kernel) ?_⟩
      refine ⟨_, _, wx, rfl, fun b o h1 h2 e => k0 _ _ (kp b o h1 h2 e), k0 _ _ hS1, k0 _ _ hP1, ?_, by omega⟩
      rw [ptk]
      simp only [pipesOf, List.append_nil]
      exact pipe_all (Tups.of k0) pw
    | some l =>
      obtain ⟨tt, rfl, htt⟩ := hx1
      refine ⟨_, rfl, _, rfl, iteTd (by simp) ?_⟩
      have hd1 := k0 _ _ (kp d _ ndS ndP hd)
      have hP2 := k0 _ _ hP1
      refine ⟨_, rfl, d, CD, dx, _, _, rfl, hd1, D.cl, D.nP, lkP S Pp, .inl ⟨rfl, _, SqL.of hP2⟩, _, rfl, tt, _, rfl, .inl (SqT.of htt), _, rfl, _, rfl, sz rfl, fun T1 hT1 => ?_⟩
      have k1 := same_new hT1 (.tup ([.int l.1, .int l.2] ++ [.int ts.length, .int (i : Nat)]))
      have hP3 := k1 _ _ hP2
      refine ⟨Pp, _, _, rfl, rfl, hP3, ?_, ?_⟩
      · exact Nat.lt_of_lt_of_le (show (ws ++ wx).length < 100000 by rw [List.length_append]; omega) (by decide)
      have kk : Tups H1 _ := (Tups.of (k0.trans' k1)).trans (tups_at (o := .lst ((ws ++ wx) ++ [.ref T1])) hP3)
      refine ⟨_, _, wx ++ [.ref T1], rfl, fun b o h1 h2 e => ?_, ?_, ?_, ?_, ?_⟩
      · rw [upd_ne h2]; exact k1 _ _ (k0 _ _ (kp b o h1 h2 e))
      · rw [upd_ne hne]; exact k1 _ _ (k0 _ _ hS1)
      · rw [upd_same, List.append_assoc]
      · rw [ptk]
        exact paired_app (pipe_all kk pw) (.cons ⟨T1, rfl, tups_at hP3 _ _ upd_same⟩ .nil)
      · rw [List.length_append]
        show wx.length + 1 ≤ i + 1
        omega
  case hd =>
    rintro σ H1 ⟨z4, z5, wx, rfl, kp, hS1, hP1, pw, hwx⟩
    rw [lL, List.take_of_length_le (Nat.le_refl _)] at pw
    have nl : NL H H1 := fun b o n e => kp b o (fun z => by rw [z, hS] at e; exact n _ (Option.some.inj e).symm) (fun z => by rw [z, hP] at e; exact n _ (Option.some.inj e).symm) e
    exact ⟨_, rfl, q _ kp ⟨⟨dx, kp d _ ndS ndP hd⟩, ⟨_, hS1, paired_app (stn_all nl prS) (.cons (hv.but2 nl) .nil)⟩, ⟨_, hP1, paired_app (pipe_all nl.tups prP) pw⟩, hne⟩⟩
end
end FY


set_option Elab.async false
set_option linter.all false
set_option maxRecDepth 100000
set_option maxHeartbeats 4000000
namespace FY
def copySt : Stn := ⟨1, 2, [⟨.one, [⟨[[false], [false]], 0, 1⟩, ⟨[[true], [true]], 0, 1⟩]⟩]⟩
def passSt : Stn := wayOf [[r1 [false] 0, r1 [true] 0]]
abbrev Stt := List Stn × List Pipe
def putS (st : Stt) (t : Stn) (ls : List Ln) : Stt := (st.1 ++ [t], st.2 ++ pipesOf st.1.length 0 ls)
def copS : Nat → Stt → Ln → Stt × List Ln × Ln
  | 0, st, l => (st, [], l)
  | k + 1, st, l => (putS (copS k st l).1 copySt [(copS k st l).2.2], (copS k st l).2.1 ++ [some ((copS k st l).1.1.length, 0)], some ((copS k st l).1.1.length, 1))
def partS : Tm → List Ln → Stt → Ln × List Ln × Stt
  | .inn, ls, st => (ls.headD none, ls.tail, st)
  | .one w t, ls, st => (some ((partS t ls st).2.2.1.length, 0), (partS t ls st).2.1, putS (partS t ls st).2.2 (stOf (.one w t)) [(partS t ls st).1])
  | .late b t, ls, st => (some ((partS t ls st).2.2.1.length, 0), (partS t ls st).2.1, putS (partS t ls st).2.2 (stOf (.late b t)) [(partS t ls st).1])
  | .byy a b c d t u, ls, st =>
    (some ((partS u (partS t ls st).2.1 (partS t ls st).2.2).2.2.1.length, 0), (partS u (partS t ls st).2.1 (partS t ls st).2.2).2.1,
      putS (partS u (partS t ls st).2.1 (partS t ls st).2.2).2.2 (stOf (.byy a b c d t u)) [(partS t ls st).1, (partS u (partS t ls st).2.1 (partS t ls st).2.2).1])
  | .keep t u, ls, st =>
    (some ((partS u (partS t ls st).2.1 (partS t ls st).2.2).2.2.1.length, 0), (partS u (partS t ls st).2.1 (partS t ls st).2.2).2.1,
      putS (partS u (partS t ls st).2.1 (partS t ls st).2.2).2.2 (stOf (.keep t u)) [(partS t ls st).1, (partS u (partS t ls st).2.1 (partS t ls st).2.2).1])
  | .thn t u, ls, st =>
    ((partS u ((copS (outerN u - 1) (partS t ls st).2.2 (partS t ls st).1).2.1 ++ [(copS (outerN u - 1) (partS t ls st).2.2 (partS t ls st).1).2.2]) (copS (outerN u - 1) (partS t ls st).2.2 (partS t ls st).1).1).1,
      (partS t ls st).2.1,
      (partS u ((copS (outerN u - 1) (partS t ls st).2.2 (partS t ls st).1).2.1 ++ [(copS (outerN u - 1) (partS t ls st).2.2 (partS t ls st).1).2.2]) (copS (outerN u - 1) (partS t ls st).2.2 (partS t ls st).1).1).2.2)
def copL (k : Nat) (st : Stt) (l : Ln) : List Ln := (copS k st l).2.1 ++ [(copS k st l).2.2]
def wholeS (t : Tm) (l : Ln) (st : Stt) : Ln × Stt := ((partS t (copL (outerN t - 1) st l) (copS (outerN t - 1) st l).1).1, (partS t (copL (outerN t - 1) st l) (copS (outerN t - 1) st l).1).2.2)
theorem partS_thn (t u : Tm) (ls : List Ln) (st : Stt) : partS (.thn t u) ls st = ((wholeS u (partS t ls st).1 (partS t ls st).2.2).1, (partS t ls st).2.1, (wholeS u (partS t ls st).1 (partS t ls st).2.2).2) := by
  rw [partS]; rfl
theorem outer_pos : ∀ t : Tm, 1 ≤ outerN t
  | .inn => Nat.le_refl 1
  | .one _ t => outer_pos t
  | .late _ t => outer_pos t
  | .byy _ _ _ _ t u => Nat.le_trans (outer_pos t) (Nat.le_add_right _ _)
  | .keep t u => Nat.le_trans (outer_pos t) (Nat.le_add_right _ _)
  | .thn t _ => outer_pos t
/-! ### all out-lines -/
def linesFrom : Nat → List Stn → List (Nat × Nat)
  | _, [] => []
  | n, t :: r => (List.range t.outs).map (fun k => (n, k)) ++ linesFrom (n + 1) r
theorem linesFrom_app : ∀ (n : Nat) (a b : List Stn), linesFrom n (a ++ b) = linesFrom n a ++ linesFrom (n + a.length) b
  | n, [], b => by simp [linesFrom]
  | n, t :: r, b => by
    simp only [List.cons_append, linesFrom, List.length_cons, linesFrom_app (n + 1) r b, List.append_assoc]
    congr 3
    omega
theorem mem_lines : ∀ {n : Nat} {ts : List Stn} {x : Nat × Nat}, x ∈ linesFrom n ts → ∃ i t, ts[i]? = some t ∧ x.1 = n + i ∧ x.2 < t.outs
  | n, [], x, h => by simp [linesFrom] at h
  | n, t :: r, x, h => by
    simp only [linesFrom, List.mem_append, List.mem_map, List.mem_range] at h
    rcases h with ⟨k, hk, rfl⟩ | h
    · exact ⟨0, t, rfl, rfl, hk⟩
    · obtain ⟨i, u, hu, e, hl⟩ := mem_lines h
      exact ⟨i + 1, u, by simpa using hu, by omega, hl⟩
theorem lines_nodup : ∀ (n : Nat) (ts : List Stn), (linesFrom n ts).Nodup
  | n, [] => List.nodup_nil
  | n, t :: r => by
    refine List.nodup_append.mpr ⟨?_, lines_nodup (n + 1) r, ?_⟩
    · refine List.Pairwise.map _ ?_ (List.nodup_range (n := t.outs))
      intro a b h e
      exact h (Prod.mk.inj e).2
    · intro a ha b hb e
      subst e
      obtain ⟨k, _, rfl⟩ := List.mem_map.mp ha
      obtain ⟨i, u, _, e, _⟩ := mem_lines hb
      have : n = n + 1 + i := e
      omega
def sumIns : List Stn → Nat
  | [] => 0
  | t :: r => t.ins + sumIns r
theorem sumIns_app : ∀ a b : List Stn, sumIns (a ++ b) = sumIns a + sumIns b
  | [], b => by simp [sumIns]
  | t :: r, b => by simp [sumIns, sumIns_app r b]; omega
def pb (p : Pipe) : Nat × Nat := (p.1, p.2.1)
def pe (p : Pipe) : Nat × Nat := (p.2.2.1, p.2.2.2)
def nons (ls : List Ln) : Nat := (ls.filter (·.isNone)).length
theorem nons_app (a b : List Ln) : nons (a ++ b) = nons a + nons b := by simp [nons]
theorem pipes_b (n : Nat) : ∀ (p : Nat) (ls : List Ln), (pipesOf n p ls).map pb = ls.filterMap id
  | p, [] => rfl
  | p, none :: r => by simpa [pipesOf] using pipes_b n (p + 1) r
  | p, some l :: r => by simpa [pipesOf, pb] using pipes_b n (p + 1) r
theorem pipes_len (n : Nat) : ∀ (p : Nat) (ls : List Ln), (pipesOf n p ls).length + nons ls = ls.length
  | p, [] => rfl
  | p, none :: r => by have := pipes_len n (p + 1) r; simp [pipesOf, nons] at this ⊢; omega
  | p, some l :: r => by have := pipes_len n (p + 1) r; simp [pipesOf, nons] at this ⊢; omega
theorem pipes_e (n : Nat) : ∀ (p : Nat) (ls : List Ln) (x : Pipe), x ∈ pipesOf n p ls → x.2.2.1 = n ∧ p ≤ x.2.2.2 ∧ x.2.2.2 < p + ls.length ∧ some (pb x) ∈ ls
  | p, [], x, h => by simp [pipesOf] at h
  | p, none :: r, x, h => by
    obtain ⟨a, b, c, d⟩ := pipes_e n (p + 1) r x (by simpa [pipesOf] using h)
    simp only [List.length_cons]
    exact ⟨a, by omega, by omega, List.mem_cons_of_mem _ d⟩
  | p, some l :: r, x, h => by
    simp only [pipesOf, List.mem_cons] at h
    simp only [List.length_cons]
    rcases h with rfl | h
    · exact ⟨rfl, Nat.le_refl _, by show p < _; omega, List.mem_cons_self ..⟩
    · obtain ⟨a, b, c, d⟩ := pipes_e n (p + 1) r x h
      exact ⟨a, by omega, by omega, List.mem_cons_of_mem _ d⟩
theorem pipes_nd (n : Nat) : ∀ (p : Nat) (ls : List Ln), ((pipesOf n p ls).map pe).Nodup
  | p, [] => List.nodup_nil
  | p, none :: r => by simpa [pipesOf] using pipes_nd n (p + 1) r
  | p, some l :: r => by
    simp only [pipesOf, List.map_cons]
    refine List.nodup_cons.mpr ⟨fun h => ?_, pipes_nd n (p + 1) r⟩
    obtain ⟨x, hx, e⟩ := List.mem_map.mp h
    obtain ⟨_, b, _⟩ := pipes_e n (p + 1) r x hx
    have : x.2.2.2 = p := (Prod.mk.inj e).2
    omega
/-! ### what holds while it is built -/
structure OkS (st : Stt) (toks : List Ln) : Prop where
  beg : (st.2.map pb ++ toks.filterMap id).Perm (linesFrom 0 st.1)
  cnt : st.2.length + 1 = sumIns st.1 + nons toks
  far : ∀ p ∈ st.2, p.1 < p.2.2.1 ∧ ∃ t, st.1[p.2.2.1]? = some t ∧ p.2.2.2 < t.ins
  ends : (st.2.map pe).Nodup
  fst : ∀ t, st.1.head? = some t → t.ins = 1
  okk : ∀ t ∈ st.1, t.ok
  ent : none ∈ toks → st.1 = []
theorem OkS.perm {st : Stt} {a b : List Ln} (h : OkS st a) (p : a.Perm b) : OkS st b :=
  ⟨(List.Perm.append_left _ (p.filterMap id).symm).trans h.beg, by
    have := (p.filter (·.isNone)).length_eq
    have := h.cnt
    unfold nons at *
    omega, h.far, h.ends, h.fst, h.okk, fun z => h.ent (p.mem_iff.mpr z)⟩
theorem OkS.start : OkS ([], []) [none] := ⟨by simp [linesFrom], rfl, by simp, List.nodup_nil, by simp, by simp, fun _ => rfl⟩
theorem OkS.put {st : Stt} {ls rest : List Ln} {t : Stn} (h : OkS st (ls ++ rest)) (hl : ls.length = t.ins) (ht : t.ok) : OkS (putS st t ls) ((List.range t.outs).map (fun k => some (st.1.length, k)) ++ rest) := by
  obtain ⟨ts, ps⟩ := st
  have hi1 := ht.i1
  -- what holds where nothing stands yet
  have h0 : ts = [] → rest = [] ∧ t.ins = 1 := by
    rintro rfl
    have hb := h.beg
    simp only [linesFrom, List.perm_nil, List.append_eq_nil_iff, List.map_eq_nil_iff] at hb
    obtain ⟨hp, hf⟩ := hb
    have hc := h.cnt
    simp only [hp, sumIns, List.length_nil, nons_app] at hc
    have all : ∀ x ∈ ls ++ rest, x = none := by
      intro x hx
      cases x with
      | none => rfl
      | some y =>
        have : y ∈ (ls ++ rest).filterMap id := List.mem_filterMap.mpr ⟨some y, hx, rfl⟩
        rw [hf] at this
        cases this
    have n1 : nons ls = ls.length := by
      unfold nons
      rw [List.filter_eq_self.mpr]
      intro x hx
      rw [all x (List.mem_append_left _ hx)]
      rfl
    have n2 : nons rest = rest.length := by
      unfold nons
      rw [List.filter_eq_self.mpr]
      intro x hx
      rw [all x (List.mem_append_right _ hx)]
      rfl
    exact ⟨List.eq_nil_of_length_eq_zero (by omega), by omega⟩
  have lm : ∀ x : Nat × Nat, some x ∈ ls → x.1 < ts.length := by
    intro x hx
    have hm : x ∈ linesFrom 0 ts := h.beg.mem_iff.mp (List.mem_append_right _ (List.mem_filterMap.mpr ⟨some x, List.mem_append_left _ hx, rfl⟩))
    obtain ⟨i, u, hu, e, _⟩ := mem_lines hm
    have := (List.getElem?_eq_some_iff.mp hu).1
    omega
  have fm : ((List.range t.outs).map (fun k => (some (ts.length, k) : Ln))).filterMap id = (List.range t.outs).map fun k => (ts.length, k) := by
    rw [List.filterMap_map]
    show List.filterMap (some ∘ fun k => (ts.length, k)) _ = _
    rw [List.filterMap_eq_map]
  have fn : nons ((List.range t.outs).map (fun k => (some (ts.length, k) : Ln))) = 0 := by
    unfold nons
    rw [List.length_eq_zero_iff, List.filter_eq_nil_iff]
    intro x hx
    obtain ⟨k, _, rfl⟩ := List.mem_map.mp hx
    simp
  refine ⟨?_, ?_, ?_, ?_, ?_, ?_, ?_⟩
  · show ((ps ++ pipesOf ts.length 0 ls).map pb ++ _).Perm (linesFrom 0 (ts ++ [t]))
    rw [List.map_append, pipes_b, List.filterMap_append, fm, linesFrom_app, Nat.zero_add]
    have e : linesFrom ts.length [t] = (List.range t.outs).map fun k => (ts.length, k) := by simp [linesFrom]
    rw [e]
    have hb := h.beg
    rw [List.filterMap_append] at hb
    refine List.Perm.trans ?_ (List.Perm.append_right _ hb)
    simp only [List.append_assoc]
    refine List.Perm.append_left _ (List.Perm.append_left _ List.perm_append_comm)
  · show (ps ++ pipesOf ts.length 0 ls).length + 1 = sumIns (ts ++ [t]) + _
    have h1 := pipes_len ts.length 0 ls
    have h2 : ps.length + 1 = sumIns ts + nons (ls ++ rest) := h.cnt
    rw [nons_app] at h2
    rw [List.length_append, sumIns_app, nons_app, fn]
    simp only [sumIns]
    omega
  · intro p hp
    rcases List.mem_append.mp hp with hp | hp
    · obtain ⟨a, u, hu, b⟩ := h.far p hp
      exact ⟨a, u, by show (ts ++ [t])[p.2.2.1]? = some u; rw [List.getElem?_append_left (List.getElem?_eq_some_iff.mp hu).1]; exact hu, b⟩
    · obtain ⟨a, _, c, d⟩ := pipes_e _ _ _ _ hp
      have := lm _ d
      refine ⟨by rw [a]; exact this, t, ?_, by omega⟩
      show (ts ++ [t])[p.2.2.1]? = some t
      rw [a]
      simp
  · show ((ps ++ pipesOf ts.length 0 ls).map pe).Nodup
    rw [List.map_append]
    refine List.nodup_append.mpr ⟨h.ends, pipes_nd _ _ _, ?_⟩
    intro a ha b hb e
    subst e
    obtain ⟨x, hx, rfl⟩ := List.mem_map.mp ha
    obtain ⟨y, hy, e⟩ := List.mem_map.mp hb
    obtain ⟨_, u, hu, _⟩ := h.far x hx
    obtain ⟨a1, _⟩ := pipes_e _ _ _ _ hy
    have := (List.getElem?_eq_some_iff.mp hu).1
    have e1 : y.2.2.1 = x.2.2.1 := (Prod.mk.inj e).1
    simp only at this
    omega
  · intro u hu
    cases ts with
    | nil =>
      have : t = u := by simpa [putS] using hu
      rw [← this]
      exact (h0 rfl).2
    | cons a r => exact h.fst u (by simpa [putS] using hu)
  · intro u hu
    rcases List.mem_append.mp hu with hu | hu
    · exact h.okk u hu
    · rw [List.mem_singleton.mp hu]
      exact ht
  · intro hn
    rcases List.mem_append.mp hn with hn | hn
    · obtain ⟨k, _, e⟩ := List.mem_map.mp hn
      cases e
    · have := h.ent (List.mem_append_right _ hn)
      rw [(h0 this).1] at hn
      cases hn
theorem copy_ok : copySt.ok := by
  refine ⟨Nat.le_refl 1, (by decide : 1 ≤ 2), (by decide : 1 ≤ 2), Nat.le_refl 2, Nat.le_refl 1, (by decide : 1 ≤ 4), fun s hs => ?_⟩
  obtain rfl : s = _ := List.mem_singleton.mp hs
  refine ⟨.inl rfl, rfl, fun r hr => ?_⟩
  simp only [List.mem_cons, List.not_mem_nil, or_false] at hr
  rcases hr with rfl | rfl
  · exact ⟨rfl, fun g hg => by simp at hg; rw [hg]; decide, (by decide : 0 < 1), Nat.le_refl 1, (by decide : 1 ≤ 9)⟩
  · exact ⟨rfl, fun g hg => by simp at hg; rw [hg]; decide, (by decide : 0 < 1), Nat.le_refl 1, (by decide : 1 ≤ 9)⟩
theorem copS_ok : ∀ (k : Nat) (st : Stt) (l : Ln) (rest : List Ln), OkS st (l :: rest) → OkS (copS k st l).1 (copL k st l ++ rest) ∧ (copS k st l).2.1.length = k ∧ (copS k st l).1.1.length = st.1.length + k
  | 0, st, l, rest, h => ⟨h, rfl, rfl⟩
  | k + 1, st, l, rest, h => by
    obtain ⟨h1, h2, h3⟩ := copS_ok k st l rest h
    have h4 : OkS (copS k st l).1 ([(copS k st l).2.2] ++ ((copS k st l).2.1 ++ rest)) := h1.perm (by
      unfold copL
      rw [← List.append_assoc]
      exact List.Perm.append_right _ List.perm_append_comm)
    refine ⟨(h4.put (t := copySt) rfl copy_ok).perm ?_, by simp [copS, h2], by simp [copS, putS, h3]; omega⟩
    show ([some ((copS k st l).1.1.length, 0), some ((copS k st l).1.1.length, 1)] ++ ((copS k st l).2.1 ++ rest)).Perm (((copS k st l).2.1 ++ [some ((copS k st l).1.1.length, 0)] ++ [some ((copS k st l).1.1.length, 1)]) ++ rest)
    rw [← List.append_assoc, List.append_assoc (copS k st l).2.1]
    exact List.Perm.append_right _ List.perm_append_comm
theorem stOf_ok {t : Tm} (h : t.isIn = false) (h2 : t.isThn = false) : (stOf t).ok ∧ (stOf t).ins = t.parts.length ∧ (stOf t).outs = 1 := by
  cases t with
  | inn => cases h
  | thn _ _ => cases h2
  | one w t => exact ⟨way_ok (rows_ok rfl), rfl, rfl⟩
  | late w t => exact ⟨way_ok (rows_ok rfl), rfl, rfl⟩
  | byy a b c d t u => exact ⟨two_ok (fun r hr => by
      simp only [List.mem_cons, List.not_mem_nil, or_false] at hr
      rcases hr with rfl | rfl | rfl | rfl <;> exact r1_ok (by simp) (by decide)) rfl, rfl, rfl⟩
  | keep t u => exact ⟨two_ok (fun r hr => by
      simp only [List.mem_cons, List.not_mem_nil, or_false] at hr
      rcases hr with rfl | rfl | rfl | rfl <;> exact r1_ok (by simp) (by decide)) rfl, rfl, rfl⟩
theorem copL_len (k : Nat) (st : Stt) (l : Ln) (rest : List Ln) (h : OkS st (l :: rest)) : (copL k st l).length = k + 1 := by
  simp [copL, (copS_ok k st l rest h).2.1]
theorem partS_ok : ∀ (t : Tm) (ls : List Ln) (st : Stt) (rest : List Ln), outerN t ≤ ls.length → OkS st (ls ++ rest) →
    OkS (partS t ls st).2.2 ((partS t ls st).1 :: ((partS t ls st).2.1 ++ rest)) ∧ (partS t ls st).2.1 = ls.drop (outerN t) ∧ (partS t ls st).2.2.1.length + outerN t ≤ st.1.length + t.nodes := by
  intro t
  induction t with
  | inn =>
    intro ls st rest hl h
    cases ls with
    | nil => simp [outerN] at hl
    | cons l r => exact ⟨h, rfl, Nat.le_refl _⟩
  | one w t ih =>
    intro ls st rest hl h
    obtain ⟨h1, h2, h3⟩ := ih ls st rest hl h
    have k := stOf_ok (t := .one w t) rfl rfl
    have p := OkS.put (ls := [(partS t ls st).1]) (rest := (partS t ls st).2.1 ++ rest) h1 k.2.1.symm k.1
    rw [k.2.2] at p
    exact ⟨p, h2, by simp [partS, putS, outerN, Tm.nodes]; omega⟩
  | late w t ih =>
    intro ls st rest hl h
    obtain ⟨h1, h2, h3⟩ := ih ls st rest hl h
    have k := stOf_ok (t := .late w t) rfl rfl
    have p := OkS.put (ls := [(partS t ls st).1]) (rest := (partS t ls st).2.1 ++ rest) h1 k.2.1.symm k.1
    rw [k.2.2] at p
    exact ⟨p, h2, by simp [partS, putS, outerN, Tm.nodes]; omega⟩
  | byy a b c d t u i1 i2 =>
    intro ls st rest hl h
    have hl' : outerN t + outerN u ≤ ls.length := hl
    obtain ⟨h1, h2, h3⟩ := i1 ls st rest (by omega) h
    obtain ⟨g1, g2, g3⟩ := i2 (partS t ls st).2.1 (partS t ls st).2.2 ((partS t ls st).1 :: rest) (by rw [h2, List.length_drop]; omega) (h1.perm (by
      exact List.perm_middle.symm))
    have k := stOf_ok (t := .byy a b c d t u) rfl rfl
    have p := OkS.put (ls := [(partS t ls st).1, (partS u (partS t ls st).2.1 (partS t ls st).2.2).1]) (rest := (partS u (partS t ls st).2.1 (partS t ls st).2.2).2.1 ++ rest) (g1.perm (by
      refine List.Perm.trans (List.Perm.cons _ List.perm_middle) ?_
      exact List.Perm.swap _ _ _)) k.2.1.symm k.1
    rw [k.2.2] at p
    refine ⟨p, ?_, by simp [partS, putS, outerN, Tm.nodes]; omega⟩
    show (partS u (partS t ls st).2.1 (partS t ls st).2.2).2.1 = _
    rw [g2, h2, List.drop_drop]
    rfl
  | keep t u i1 i2 =>
    intro ls st rest hl h
    have hl' : outerN t + outerN u ≤ ls.length := hl
    obtain ⟨h1, h2, h3⟩ := i1 ls st rest (by omega) h
    obtain ⟨g1, g2, g3⟩ := i2 (partS t ls st).2.1 (partS t ls st).2.2 ((partS t ls st).1 :: rest) (by rw [h2, List.length_drop]; omega) (h1.perm (by
      exact List.perm_middle.symm))
    have k := stOf_ok (t := .keep t u) rfl rfl
    have p := OkS.put (ls := [(partS t ls st).1, (partS u (partS t ls st).2.1 (partS t ls st).2.2).1]) (rest := (partS u (partS t ls st).2.1 (partS t ls st).2.2).2.1 ++ rest) (g1.perm (by
      refine List.Perm.trans (List.Perm.cons _ List.perm_middle) ?_
      exact List.Perm.swap _ _ _)) k.2.1.symm k.1
    rw [k.2.2] at p
    refine ⟨p, ?_, by simp [partS, putS, outerN, Tm.nodes]; omega⟩
    show (partS u (partS t ls st).2.1 (partS t ls st).2.2).2.1 = _
    rw [g2, h2, List.drop_drop]
    rfl
  | thn t u i1 i2 =>
    intro ls st rest hl h
    obtain ⟨h1, h2, h3⟩ := i1 ls st rest hl h
    obtain ⟨c1, c2, c3⟩ := copS_ok (outerN u - 1) _ _ _ h1
    have cl := copL_len (outerN u - 1) _ _ _ h1
    have up := outer_pos u
    obtain ⟨g1, g2, g3⟩ := i2 (copL (outerN u - 1) (partS t ls st).2.2 (partS t ls st).1) (copS (outerN u - 1) (partS t ls st).2.2 (partS t ls st).1).1 ((partS t ls st).2.1 ++ rest) (by omega) c1
    rw [partS_thn]
    refine ⟨?_, h2, ?_⟩
    · rw [g2, List.drop_of_length_le (by omega)] at g1
      exact g1
    · show (wholeS u (partS t ls st).1 (partS t ls st).2.2).2.1.length + outerN t ≤ st.1.length + (t.nodes + u.nodes + 1)
      show (partS u (copL (outerN u - 1) (partS t ls st).2.2 (partS t ls st).1) (copS (outerN u - 1) (partS t ls st).2.2 (partS t ls st).1).1).2.2.1.length + outerN t ≤ st.1.length + (t.nodes + u.nodes + 1)
      omega
theorem wholeS_ok (t : Tm) (l : Ln) (st : Stt) (rest : List Ln) (h : OkS st (l :: rest)) : OkS (wholeS t l st).2 ((wholeS t l st).1 :: rest) ∧ (wholeS t l st).2.1.length + 1 ≤ st.1.length + t.nodes := by
  obtain ⟨c1, c2, c3⟩ := copS_ok (outerN t - 1) _ _ _ h
  have cl := copL_len (outerN t - 1) _ _ _ h
  have up := outer_pos t
  obtain ⟨g1, g2, g3⟩ := partS_ok t (copL (outerN t - 1) st l) (copS (outerN t - 1) st l).1 rest (by omega) c1
  rw [g2, List.drop_of_length_le (by omega)] at g1
  refine ⟨g1, ?_⟩
  show (partS t (copL (outerN t - 1) st l) (copS (outerN t - 1) st l).1).2.2.1.length + 1 ≤ _
  omega
end FY

set_option Elab.async false
set_option linter.all false
set_option maxRecDepth 100000
set_option maxHeartbeats 4000000
namespace FY
/-! ### a station as a machine over columns of signs -/
def valB (c : List Bool) : Nat := c.foldl (fun n b => 2 * n + b.toNat) 0
def rowC (t : Stn) (g : Nat) (c : List Bool) : Rw := ((t.stgs[g]?.getD ⟨.one, []⟩).rows[valB c]?).getD ⟨[], 0, 0⟩
def runT (t : Stn) : Nat → List (List Bool) → Nat × List (List Bool)
  | g, [] => (g, List.replicate t.outs [])
  | g, c :: cs => ((runT t (rowC t g c).goal cs).1, List.zipWith (· ++ ·) (rowC t g c).gives (runT t (rowC t g c).goal cs).2)
def colsL : List (List Bool) → List (List Bool)
  | [x] => x.map fun b => [b]
  | [x, y] => List.zipWith (fun a b => [a, b]) x y
  | _ => []
/-- every standing reads all lines -/
structure Stn.full (t : Stn) : Prop where
  ok : t.ok
  al : ∀ s ∈ t.stgs, s.reads = if t.ins = 1 then .one else .both
theorem Stn.full.ins {t : Stn} (h : t.full) : t.ins = 1 ∨ t.ins = 2 := by
  have := h.ok.i1
  have := h.ok.i2
  omega
theorem rowC_ok {t : Stn} (h : t.full) {g : Nat} (hg : g < t.stgs.length) {c : List Bool} (hc : c.length = t.ins) : (rowC t g c).ok t.outs t.stgs.length := by
  have e : t.stgs[g]? = some t.stgs[g] := List.getElem?_eq_getElem hg
  have hm : t.stgs[g] ∈ t.stgs := List.getElem_mem hg
  obtain ⟨_, hl, hr⟩ := h.ok.sg _ hm
  have ha := h.al _ hm
  have hv : valB c < t.stgs[g].rows.length := by
    rw [hl, ha]
    rcases h.ins with i | i
    · rw [if_pos i]
      rw [i] at hc
      match c, hc with
      | [a], _ => cases a <;> decide
    · rw [if_neg (by omega)]
      rw [i] at hc
      match c, hc with
      | [a, b], _ => cases a <;> cases b <;> decide
  unfold rowC
  rw [e]
  show ((t.stgs[g].rows[valB c]?).getD ⟨[], 0, 0⟩).ok _ _
  rw [List.getElem?_eq_getElem hv]
  exact hr _ (List.getElem_mem hv)
theorem runT_ok {t : Stn} (h : t.full) : ∀ (cs : List (List Bool)) {g : Nat}, g < t.stgs.length → (∀ c ∈ cs, c.length = t.ins) → (runT t g cs).1 < t.stgs.length ∧ (runT t g cs).2.length = t.outs ∧ ∀ o ∈ (runT t g cs).2, o.length ≤ 2 * cs.length
  | [], g, hg, _ => ⟨hg, by simp [runT], by simp [runT]⟩
  | c :: cs, g, hg, hc => by
    obtain ⟨r1, r2, r3, _⟩ := rowC_ok h hg (hc c (List.mem_cons_self ..))
    obtain ⟨a, b, d⟩ := runT_ok h cs r3 fun z hz => hc z (List.mem_cons_of_mem _ hz)
    refine ⟨a, by simp [runT, b, r1], fun o ho => ?_⟩
    simp only [runT] at ho
    obtain ⟨i, hi, e⟩ := List.mem_iff_getElem.mp ho
    rw [List.getElem_zipWith] at e
    rw [List.length_zipWith] at hi
    have h1 := r2 _ (List.getElem_mem (l := (rowC t g c).gives) (n := i) (by omega))
    have h2 := d _ (List.getElem_mem (l := (runT t (rowC t g c).goal cs).2) (n := i) (by omega))
    rw [← e, List.length_append, List.length_cons]
    omega
theorem zipWith_nil_r (n : Nat) : ∀ (xs : List (List Bool)), xs.length = n → List.zipWith (· ++ ·) xs (List.replicate n []) = xs := by
  induction n with
  | zero => intro xs h; rw [List.length_eq_zero_iff.mp h]; rfl
  | succ n ih =>
    intro xs h
    match xs, h with
    | x :: r, h => simp [List.replicate_succ, ih r (by simpa using h)]
theorem zipWith_nil_l (n : Nat) : ∀ (xs : List (List Bool)), xs.length = n → List.zipWith (· ++ ·) (List.replicate n []) xs = xs := by
  induction n with
  | zero => intro xs h; rw [List.length_eq_zero_iff.mp h]; rfl
  | succ n ih =>
    intro xs h
    match xs, h with
    | x :: r, h => simp [List.replicate_succ, ih r (by simpa using h)]
theorem zipWith_assoc : ∀ (xs ys zs : List (List Bool)), List.zipWith (· ++ ·) xs (List.zipWith (· ++ ·) ys zs) = List.zipWith (· ++ ·) (List.zipWith (· ++ ·) xs ys) zs
  | [], _, _ => by simp
  | _ :: _, [], _ => by simp
  | _ :: _, _ :: _, [] => by simp
  | x :: xs, y :: ys, z :: zs => by simp [zipWith_assoc xs ys zs]
/-- one more column -/
theorem runT_snoc {t : Stn} (h : t.full) (c : List Bool) (hc : c.length = t.ins) : ∀ (cs : List (List Bool)) {g : Nat}, g < t.stgs.length → (∀ c ∈ cs, c.length = t.ins) →
    runT t g (cs ++ [c]) = ((rowC t (runT t g cs).1 c).goal, List.zipWith (· ++ ·) (runT t g cs).2 (rowC t (runT t g cs).1 c).gives)
  | [], g, hg, _ => by
    obtain ⟨r1, _⟩ := rowC_ok h hg hc
    simp only [List.nil_append, runT]
    rw [zipWith_nil_r _ _ r1, zipWith_nil_l _ _ r1]
  | d :: cs, g, hg, hcs => by
    obtain ⟨r1, r2, r3, _⟩ := rowC_ok h hg (hcs d (List.mem_cons_self ..))
    have ih := runT_snoc h c hc cs r3 fun z hz => hcs z (List.mem_cons_of_mem _ hz)
    simp only [List.cons_append, runT, ih, zipWith_assoc]
/-- more columns, more is given -/
theorem runT_app {t : Stn} (h : t.full) : ∀ (ds cs : List (List Bool)) {g : Nat}, g < t.stgs.length → (∀ c ∈ cs, c.length = t.ins) → (∀ c ∈ ds, c.length = t.ins) → ∀ o : Nat, ((runT t g cs).2[o]?).getD [] <+: ((runT t g (cs ++ ds)).2[o]?).getD []
  | [], cs, g, hg, _, _, o => by rw [List.append_nil]; exact List.prefix_refl _
  | d :: ds, cs, g, hg, hc, hd, o => by
    have e1 : cs ++ d :: ds = (cs ++ [d]) ++ ds := by simp
    have hd1 := hd d (List.mem_cons_self ..)
    have hc2 : ∀ c ∈ cs ++ [d], c.length = t.ins := fun z hz => by
      rcases List.mem_append.mp hz with hz | hz
      · exact hc z hz
      · rw [List.mem_singleton.mp hz]; exact hd1
    rw [e1]
    refine List.IsPrefix.trans ?_ (runT_app h ds (cs ++ [d]) hg hc2 (fun z hz => hd z (List.mem_cons_of_mem _ hz)) o)
    rw [runT_snoc h d hd1 cs hg hc]
    obtain ⟨a1, a2, _⟩ := runT_ok h cs hg hc
    obtain ⟨r1, _⟩ := rowC_ok h a1 hd1
    show _ <+: ((List.zipWith (· ++ ·) (runT t g cs).2 (rowC t (runT t g cs).1 d).gives)[o]?).getD []
    by_cases ho : o < t.outs
    · have l1 : o < (runT t g cs).2.length := by omega
      have l2 : o < (rowC t (runT t g cs).1 d).gives.length := by omega
      rw [List.getElem?_zipWith, List.getElem?_eq_getElem l1, List.getElem?_eq_getElem l2]
      exact List.prefix_append _ _
    · rw [List.getElem?_eq_none (by omega)]
      exact List.nil_prefix
theorem colsL_in {n : Nat} (hn : n = 1 ∨ n = 2) {xs : List (List Bool)} (h : xs.length = n) : ∀ c ∈ colsL xs, c.length = n := by
  intro c hc
  rcases hn with rfl | rfl
  · match xs, h with
    | [x], _ =>
      obtain ⟨b, _, rfl⟩ := List.mem_map.mp hc
      rfl
  · match xs, h with
    | [x, y], _ =>
      obtain ⟨i, hi, e⟩ := List.mem_iff_getElem.mp hc
      simp only [colsL, List.getElem_zipWith] at e
      rw [← e]
      rfl
theorem zipWith_pre : ∀ {x x' y y' : List Bool}, x <+: x' → y <+: y' → List.zipWith (fun a b => [a, b]) x y <+: List.zipWith (fun a b => [a, b]) x' y'
  | [], _, _, _, _, _ => by simp
  | _ :: _, _, [], _, _, _ => by simp
  | a :: x, a' :: x', b :: y, b' :: y', h1, h2 => by
    obtain ⟨e1, g1⟩ := List.cons_prefix_cons.mp h1
    obtain ⟨e2, g2⟩ := List.cons_prefix_cons.mp h2
    subst e1
    subst e2
    simp only [List.zipWith_cons_cons]
    exact List.cons_prefix_cons.mpr ⟨rfl, zipWith_pre g1 g2⟩
  | _ :: _, [], _, _, h1, _ => by simp at h1
  | _ :: _, _ :: _, _ :: _, [], _, h2 => by simp at h2
/-! ### the net: what each in-line has had -/
abbrev Hist := List (List (List Bool))
def outH (hs : Hist) (s o : Nat) : List Bool := ((hs[s]?.getD [])[o]?).getD []
def inpH (x : List Bool) (qs : List Pipe) (hs : Hist) (s l : Nat) : List Bool :=
  if (s, l) = (0, 0) then x else match qs.find? (fun p => decide (pe p = (s, l))) with | some p => outH hs p.1 p.2.1 | none => []
def colH (x : List Bool) (qs : List Pipe) (hs : Hist) (s n : Nat) : List (List Bool) := colsL ((List.range n).map (inpH x qs hs s))
def kAt (k : List Nat) (s : Nat) : Nat := k[s]?.getD 0
structure NetOk (ts : List Stn) (qs : List Pipe) : Prop where
  fu : ∀ t ∈ ts, t.full
  lt : ∀ p ∈ qs, p.1 < p.2.2.1
  hd : ∀ t, ts.head? = some t → t.ins = 1
structure Rch (ts : List Stn) (qs : List Pipe) (x : List Bool) (k : List Nat) (hs : Hist) : Prop where
  lk : k.length = ts.length
  lh : hs.length = ts.length
  le : ∀ s t, ts[s]? = some t → kAt k s ≤ (colH x qs hs s t.ins).length
  at_ : ∀ s t, ts[s]? = some t → hs[s]? = some (runT t 0 ((colH x qs hs s t.ins).take (kAt k s))).2
def FullR (ts : List Stn) (qs : List Pipe) (x : List Bool) (k : List Nat) (hs : Hist) : Prop := ∀ s t, ts[s]? = some t → kAt k s = (colH x qs hs s t.ins).length
theorem col_in {ts : List Stn} {qs : List Pipe} (N : NetOk ts qs) {x : List Bool} {hs : Hist} {s : Nat} {t : Stn} (h : ts[s]? = some t) : ∀ c ∈ colH x qs hs s t.ins, c.length = t.ins :=
  colsL_in (N.fu t (List.mem_of_getElem? h)).ins (by simp)
theorem inp_pre {qs : List Pipe} (lt : ∀ p ∈ qs, p.1 < p.2.2.1) {x : List Bool} {hs hs' : Hist} {s : Nat} (h : ∀ s' < s, ∀ o, outH hs s' o <+: outH hs' s' o) (l : Nat) : inpH x qs hs s l <+: inpH x qs hs' s l := by
  unfold inpH
  split
  · exact List.prefix_refl _
  · split
    · rename_i p e
      have hp := List.mem_of_find?_eq_some e
      have hq := List.find?_some e
      have e2 : pe p = (s, l) := by simpa using hq
      have e3 : p.2.2.1 = s := (Prod.mk.inj e2).1
      exact h _ (by have := lt p hp; omega) _
    · exact List.prefix_refl _
theorem col_pre {qs : List Pipe} (lt : ∀ p ∈ qs, p.1 < p.2.2.1) {x : List Bool} {hs hs' : Hist} {s n : Nat} (hn : n = 1 ∨ n = 2) (h : ∀ s' < s, ∀ o, outH hs s' o <+: outH hs' s' o) : colH x qs hs s n <+: colH x qs hs' s n := by
  have i0 := inp_pre (x := x) lt h 0
  have i1 := inp_pre (x := x) lt h 1
  rcases hn with rfl | rfl
  · exact i0.map _
  · exact zipWith_pre i0 i1
theorem Rch.out {ts : List Stn} {qs : List Pipe} {x : List Bool} {k : List Nat} {hs : Hist} (R : Rch ts qs x k hs) {s : Nat} {t : Stn} (h : ts[s]? = some t) (o : Nat) : outH hs s o = ((runT t 0 ((colH x qs hs s t.ins).take (kAt k s))).2[o]?).getD [] := by
  unfold outH
  rw [R.at_ s t h]
  rfl
theorem Rch.out_none {ts : List Stn} {qs : List Pipe} {x : List Bool} {k : List Nat} {hs : Hist} (R : Rch ts qs x k hs) {s : Nat} (h : ts[s]? = none) (o : Nat) : outH hs s o = [] := by
  have : hs[s]? = none := by
    rw [List.getElem?_eq_none_iff] at h ⊢
    have := R.lh
    omega
  unfold outH
  rw [this]
  rfl
theorem mem_take_in {α : Type} {xs : List α} {n : Nat} {a : α} (h : a ∈ xs.take n) : a ∈ xs := List.mem_of_mem_take h
/-- a further one has had no less -/
theorem Rch.mono {ts : List Stn} {qs : List Pipe} (N : NetOk ts qs) {x : List Bool} {k k' : List Nat} {hs hs' : Hist} (R : Rch ts qs x k hs) (R' : Rch ts qs x k' hs') (hk : ∀ s, kAt k s ≤ kAt k' s) : ∀ s o, outH hs s o <+: outH hs' s o := by
  intro s
  induction s using Nat.strongRecOn with
  | ind s ih =>
    intro o
    cases e : ts[s]? with
    | none => rw [R.out_none e]; exact List.nil_prefix
    | some t =>
      have fu := N.fu t (List.mem_of_getElem? e)
      rw [R.out e, R'.out e]
      have cp := col_pre (x := x) N.lt fu.ins (hs := hs) (hs' := hs') (s := s) ih
      have le := R.le s t e
      have le' := R'.le s t e
      have hkk := hk s
      have e1 : (colH x qs hs s t.ins).take (kAt k s) = (colH x qs hs' s t.ins).take (kAt k s) := by
        obtain ⟨r, hr⟩ := cp
        rw [← hr, List.take_append_of_le_length le]
      obtain ⟨d, hd⟩ : ∃ d, (colH x qs hs' s t.ins).take (kAt k' s) = (colH x qs hs' s t.ins).take (kAt k s) ++ d := by
        refine ⟨((colH x qs hs' s t.ins).drop (kAt k s)).take (kAt k' s - kAt k s), ?_⟩
        have : kAt k' s = kAt k s + (kAt k' s - kAt k s) := by omega
        conv => lhs; rw [this, List.take_add]
      rw [e1, hd]
      have g0 : 0 < t.stgs.length := fu.ok.m1
      exact runT_app fu d _ g0 (fun c hc => col_in N e c (mem_take_in hc)) (fun c hc => col_in N e c (mem_take_in (show c ∈ (colH x qs hs' s t.ins).take (kAt k' s) by rw [hd]; exact List.mem_append_right _ hc))) o
/-- nothing goes beyond what is full -/
theorem Rch.le_full {ts : List Stn} {qs : List Pipe} (N : NetOk ts qs) {x : List Bool} {k K : List Nat} {hs Hs : Hist} (R : Rch ts qs x k hs) (R' : Rch ts qs x K Hs) (F : FullR ts qs x K Hs) : ∀ s, kAt k s ≤ kAt K s := by
  have key : ∀ s, kAt k s ≤ kAt K s ∧ ∀ o, outH hs s o <+: outH Hs s o := by
    intro s
    induction s using Nat.strongRecOn with
    | ind s ih =>
      cases e : ts[s]? with
      | none =>
        refine ⟨?_, fun o => by rw [R.out_none e]; exact List.nil_prefix⟩
        have : k[s]? = none := by
          rw [List.getElem?_eq_none_iff] at e ⊢
          have := R.lk
          omega
        unfold kAt
        rw [this]
        exact Nat.zero_le _
      | some t =>
        have fu := N.fu t (List.mem_of_getElem? e)
        have cp := col_pre (x := x) N.lt fu.ins (hs := hs) (hs' := Hs) (s := s) fun s' h o => (ih s' h).2 o
        have le := R.le s t e
        have e2 := F s t e
        have l1 := cp.length_le
        have hkk : kAt k s ≤ kAt K s := by omega
        refine ⟨hkk, fun o => ?_⟩
        rw [R.out e, R'.out e]
        have e1 : (colH x qs hs s t.ins).take (kAt k s) = (colH x qs Hs s t.ins).take (kAt k s) := by
          obtain ⟨r, hr⟩ := cp
          rw [← hr, List.take_append_of_le_length le]
        obtain ⟨d, hd⟩ : ∃ d, (colH x qs Hs s t.ins).take (kAt K s) = (colH x qs Hs s t.ins).take (kAt k s) ++ d := by
          refine ⟨((colH x qs Hs s t.ins).drop (kAt k s)).take (kAt K s - kAt k s), ?_⟩
          have : kAt K s = kAt k s + (kAt K s - kAt k s) := by omega
          conv => lhs; rw [this, List.take_add]
        rw [e1, hd]
        have g0 : 0 < t.stgs.length := fu.ok.m1
        exact runT_app fu d _ g0 (fun c hc => col_in N e c (mem_take_in hc)) (fun c hc => col_in N e c (mem_take_in (show c ∈ (colH x qs Hs s t.ins).take (kAt K s) by rw [hd]; exact List.mem_append_right _ hc))) o
  exact fun s => (key s).1
theorem kAt_ext {k k' : List Nat} (hl : k.length = k'.length) (h : ∀ s, kAt k s = kAt k' s) : k = k' := by
  refine List.ext_getElem hl fun i h1 h2 => ?_
  have := h i
  unfold kAt at this
  rw [List.getElem?_eq_getElem h1, List.getElem?_eq_getElem h2] at this
  exact this
theorem pre_anti {a b : List Bool} (h : a <+: b) (h' : b <+: a) : a = b := h.eq_of_length (Nat.le_antisymm h.length_le h'.length_le)
/-- the numbers of beats tell all -/
theorem Rch.same {ts : List Stn} {qs : List Pipe} (N : NetOk ts qs) {x : List Bool} {k : List Nat} {hs hs' : Hist} (R : Rch ts qs x k hs) (R' : Rch ts qs x k hs') : hs = hs' := by
  have h1 := R.mono N R' fun _ => Nat.le_refl _
  have h2 := R'.mono N R fun _ => Nat.le_refl _
  have eo : ∀ s o, outH hs s o = outH hs' s o := fun s o => pre_anti (h1 s o) (h2 s o)
  refine List.ext_getElem? fun s => ?_
  cases e : ts[s]? with
  | none =>
    rw [List.getElem?_eq_none_iff] at e
    rw [List.getElem?_eq_none (by have := R.lh; omega), List.getElem?_eq_none (by have := R'.lh; omega)]
  | some t =>
    rw [R.at_ s t e, R'.at_ s t e]
    congr 3
    have ei : ∀ l, inpH x qs hs s l = inpH x qs hs' s l := fun l => by
      unfold inpH
      split
      · rfl
      · split
        · exact eo _ _
        · rfl
    unfold colH
    congr 3
    funext l
    exact ei l
/-- one end -/
theorem Rch.one_end {ts : List Stn} {qs : List Pipe} (N : NetOk ts qs) {x : List Bool} {k K : List Nat} {hs Hs : Hist} (R : Rch ts qs x k hs) (F : FullR ts qs x k hs) (R' : Rch ts qs x K Hs) (F' : FullR ts qs x K Hs) : k = K ∧ hs = Hs := by
  have e : k = K := kAt_ext (by rw [R.lk, R'.lk]) fun s => Nat.le_antisymm (R.le_full N R' F' s) (R'.le_full N R F s)
  subst e
  exact ⟨rfl, R.same N R'⟩
end FY

set_option Elab.async false
set_option linter.all false
set_option maxRecDepth 100000
set_option maxHeartbeats 4000000
namespace FYR
open PySem PySem.Spec PyProof.Rows L2 L2.Hx PySem.NumText PySem.Calls
/-! int(signs, 2), signs one or two of 0 and 1 -/
def Bin (x : PySem.Str) (n : Nat) : Prop := ((numSeenOf x).length ≤ 640) ∧ ((int_private% "readNumeral") 0 2 (numSeenOf x) = (int_private% "Numeral.value") (n : Int)) ∧ ((numSeenOf x).length == (numTextOf x).length) = true
theorem gives_bin {x : PySem.Str} {u t : Tok} {n : Nat} (h : Bin x n) :
    Gives (Builtin.«int.__new__» ⟨[.type "int", .str x u, .int 2 t], []⟩) (.int (n : Int)) :=
  .of_wp fun M A E s Q hQ => by
    obtain ⟨hp, g, d, tk, os⟩ := s
    have f1 := F.conv_sub_int
    have f2 := F.madeHere_int
    have f6 : typeOf (.str x u) = pure (.type "str") := rfl
    have hk := Hid.mk h
    clear h
    repeat (any_goals (first
      | assumption
      | ((with_reducible show wpAny _ _ ((int_private% "intFromText") _ _ _) _ _ _); refine wp_textB hk.out.1 hk.out.2.1 hk.out.2.2 ?_)
      | wp_step))
    all_goals first | exact ⟨_, rfl, hQ⟩ | skip
theorem call_bin {prog : Program} {w : World} {A : Around} {E : Value → Shared → Prop} {s : Shared} {Q : Value → Shared → Prop} {x : PySem.Str} {u t : Tok} {n : Nat} (h : Bin x n)
    (hQ : Q (.int (n : Int) s.toks) { s with toks := s.toks + 1 }) : wpAny (model prog w) A (call (.type "int") [.str x u, .int 2 t]) Q E s :=
  callType_new F.called_int F.newNe_int (typeCall_int_2 _ _) (newCall_int_2 _ _) (fun obj => F.initArgs_range_2 obj _ _) F.entry_int_new (gives_bin h).meets (show (Made.int (n : Int)).post _ s from ⟨rfl, hQ⟩)
theorem bin_tx {c : List Bool} (h : c.length = 1 ∨ c.length = 2) : Bin (FY.tx c) (FY.valB c) := by
  rcases h with h | h
  · match c, h with
    | [a], _ => cases a <;> exact ⟨by decide +kernel, by kernel_rfl, by decide +kernel⟩
  · match c, h with
    | [a, b], _ => cases a <;> cases b <;> exact ⟨by decide +kernel, by kernel_rfl, by decide +kernel⟩
def rInt2 : List V → Hp → VK → Prop := fun xs H Q => ∃ c : List Bool, xs = [.str (FY.tx c), .int 2] ∧ (c.length = 1 ∨ c.length = 2) ∧ Q (.int (FY.valB c : Nat)) H
theorem call_int2 {X : Cx} : CallR X (.type "int") rInt2 := by
  intro pins s σ H xs us Q I r h
  obtain ⟨c, rfl, hl, q⟩ := h
  obtain ⟨u, w', rfl, r1, r2⟩ := vals2 r
  obtain ⟨t1, rfl⟩ := r1
  obtain ⟨t2, rfl⟩ := r2
  exact call_bin (bin_tx hl) ⟨.int (FY.valB c : Nat), H, I.tok _, ⟨_, rfl⟩, q⟩
end FYR

set_option Elab.async false
set_option linter.all false
set_option maxRecDepth 100000
set_option maxHeartbeats 4000000
namespace FYR
open PySem PySem.Spec PyProof.Rows L2 PySem.W PySem.SeqAt
/-! xs > ys, lists of whole numbers -/
def lexI : List Int → List Int → Bool
  | [], [] => false
  | [], _ :: _ => true
  | _ :: _, [] => false
  | a :: as, b :: bs => if a = b then lexI as bs else decide (a < b)
theorem toks_int (ns : List Int) : keyToksAll (ns.map PyData.int) = ns.flatMap (fun n => [Sum.inl 1, Sum.inl n]) ++ [Sum.inl 0] := by
  induction ns with
  | nil => simp [keyToksAll]
  | cons n r ih => simp [keyToksAll, keyToks, ih]
theorem lex_int : ∀ ns ms : List Int, dataLt (.list (ns.map PyData.int)) (.list (ms.map PyData.int)) = lexI ns ms := by
  intro ns
  induction ns with
  | nil =>
    intro ms
    cases ms with
    | nil =>
      show PyProof.Rows.lexLt itemOrd [Sum.inl 0] [Sum.inl 0] = false
      exact lex_irrefl _
    | cons m r =>
      show PyProof.Rows.lexLt itemOrd [Sum.inl 0] (Sum.inl 1 :: _) = true
      rw [lex_diff (O := itemOrd) (by simp)]
      rfl
  | cons n r ih =>
    intro ms
    cases ms with
    | nil =>
      show PyProof.Rows.lexLt itemOrd (Sum.inl 1 :: _) [Sum.inl 0] = false
      rw [lex_diff (O := itemOrd) (by simp)]
      rfl
    | cons m s =>
      show PyProof.Rows.lexLt itemOrd (Sum.inl 1 :: Sum.inl n :: keyToksAll (r.map PyData.int)) (Sum.inl 1 :: Sum.inl m :: keyToksAll (s.map PyData.int)) = _
      rw [lex_self (O := itemOrd)]
      by_cases z : n = m
      · subst z
        rw [lex_self (O := itemOrd)]
        have := ih s
        unfold dataLt at this
        show _ = (if n = n then _ else _)
        rw [if_pos rfl]
        exact this
      · rw [lex_diff (O := itemOrd) (fun y => z (Sum.inl.inj y))]
        show decide (n < m) = (if n = m then _ else _)
        rw [if_neg z]
theorem alike_int : ∀ ns ms : List Int, alikeAll (ns.map PyData.int) (ms.map PyData.int) = true
  | [], _ => by simp [alikeAll]
  | _ :: _, [] => by simp [alikeAll]
  | a :: as, b :: bs => by simp [alikeAll, alike, alike_int as bs]
def rGtL (K : PySem.W.Frag) : R2 := fun x y H Q => ∃ ns ms : List Int, Dp K H x (.list (ns.map PyData.int)) ∧ Dp K H y (.list (ms.map PyData.int)) ∧ Q (.bl (lexI ms ns)) H
theorem op_gtL {X : Cx} (hu : X.A.units + 64 < cLine) : OpR X (compareOp .Gt) (rGtL X.K) := by
  intro pins s σ H x y v u Q I rx ry h
  obtain ⟨ns, ms, hd, he, q⟩ := h
  obtain ⟨as, r1⟩ := Dp.reads I _ x v hd rx
  obtain ⟨bs, r2⟩ := Dp.reads I _ y u he ry
  refine gt_data r1 r2 (alike_int ns ms) (by simp) ?_ ⟨.bl (lexI ms ns), H, I, ?_, q⟩
  · have dp : ∀ ls : List Int, PyData.depth (.list (ls.map PyData.int)) ≤ 2 := fun ls => by
      have : PyData.depthAll (ls.map PyData.int) ≤ 1 := by
        induction ls with
        | nil => simp [PyData.depthAll]
        | cons a r ih => simp [PyData.depthAll, PyData.depth] at *; omega
      simp [PyData.depth]
      omega
    have := dp ns
    omega
  · rw [lex_int]
    rfl
end FYR

set_option Elab.async false
set_option linter.all false
set_option maxRecDepth 100000
set_option maxHeartbeats 4000000
namespace FYR
open PySem PySem.Spec PyProof.Rows L2 RZ
section
variable {X : Cx} (K : PySem.W.Frag) (hK : X.K = K)
include hK
theorem kCatA : OpR X (binaryOp .Add) (rCatA K) := by subst hK; exact op_catA
theorem kGtL (hu : X.A.units + 64 < cLine) : OpR X (compareOp .Gt) (rGtL K) := by subst hK; exact op_gtL hu
theorem kSortI : CallR X (.builtin "sorted") (rSortedI K) := by subst hK; exact cr_sortedI
theorem kZipA {e e2 : Expr} {ta : TA} {p pos tpos : Pos} {elts : List Expr} {kk : Nat} (hg : Gl X "zip") (hm : X.mg "zip" = none) (ha : PA X [e, e2] ta)
    (hs : starEach [e, e2] X.env = (false, eval e X.env) :: starEach [e2] X.env := by rfl) (hpl : (backTo pos (starEach [e2] X.env)).any (·.1) = false := by rfl) :
    PI X (.Tuple elts kk tpos) (.Call (.Name "zip" p) [e, e2] [] pos) (iZipA K ta) := by subst hK; exact pi_zipA hg hm ha hs hpl
end
/-! d[key], d a written dict of the module -/
def tKd (K : PySem.W.Frag) (d : Addr) (td ty : TE) : TE := fun σ H Q => td σ H fun x H1 => ty σ H1 fun y H2 => ∃ (z : Str) (u0 : Value) (v0 : V), x = .ref d ∧ y = .str z ∧ PySem.W.nsIn K d z = some (some u0) ∧ RelV v0 u0 ∧ Q v0 H2
theorem pe_kd {X : Cx} {K : PySem.W.Frag} {w : World} {d : Addr} {es : Array DictEntry} {n : Nat} {o i : Expr} {pos : Pos} {td ty : TE} (hK : X.K = K) (hw : X.w = w) (D : KDict K w d es n) (ho : PE X o td) (hi : PE X i ty) (hs : NoSl i) : PE X (.Subscript o i pos) (tKd K d td ty) := by
  subst hK
  subst hw
  refine ⟨fun pins s σ H Q I h => ?_⟩
  refine subD_of PySem.F.slot_dict_getitem.lookup hs (thn (ho.run pins s σ H _ I h) fun u s1 ⟨x, H1, I1, rx, q1⟩ => thn (hi.run pins s1 σ H1 _ I1 q1) fun iv s2 ⟨y, H2, I2, ry, z, u0, v0, ex, ey, e, r, q2⟩ => ?_)
  subst ex
  subst ey
  obtain rfl : u = Value.ref d := rx
  exact ⟨kd_type D I2, op_item_kd D pins s2 σ H2 (.ref d) (.str z) _ _ _ I2 (show RelV (.ref d) (.ref d) from rfl) ry ⟨z, u0, v0, rfl, rfl, e, r, q2⟩⟩
end FYR

set_option Elab.async false
set_option linter.all false
set_option maxRecDepth 100000
set_option maxHeartbeats 4000000
/-! != by an own ==, of instances and of tuples of them; a tuple times 0 and 1 -/
namespace FYR
open PySem PySem.Spec PyProof.Rows L2
open AutoSeq1 (wpAny_loadPart')
/-! ### tuple != tuple, all items equal -/
section
variable {prog : Program} {w : World} {A : Around} {R : Result → Shared → Prop}
theorem tup_ne (l b : Addr) (xs ys : Array Value) (n m : Nat) (d1 d2 : Option Addr) (s1 s2 : Array (Option Value)) (same : xs.size = ys.size) (G : Nat → Shared → Prop)
    (one : ∀ i (h1 : i < xs.size) (h2 : i < ys.size) s, G i s → wpAny (model prog w) A.in1 (eqBool xs[i] ys[i]) (fun r s' => r = true ∧ G (i + 1) s') (fun e s' => R (.error e) s') s)
    (fin : ∀ s, G xs.size s → R (.ok (.ret (.bool false))) s) {s : Shared} (hl : s.heap.get? l = some { cls := .type "tuple", dict := d1, data := .seq xs n, slots := s1 }) (hb : s.heap.get? b = some { cls := .type "tuple", dict := d2, data := .seq ys m, slots := s2 }) (g0 : G 0 s) :
    wpAny (model prog w) A.in1 (Builtin.«tuple.__ne__» ⟨[.ref l, .ref b], []⟩) (GQ.FinOf prog w A R) (fun e s' => R (.error e) s') s := by
  have sub2 := AutoSeq1.sub_tuple_tuple
  have zl : (xs.toList.zip ys.toList).length = xs.size := by simp [same]
  have g00 := g0
  obtain ⟨hp, gg, dd, tk, os⟩ := s
  wp_walk using wpAny_loadPart' hl, wpAny_loadPart' hb, wpAny_forIn_list _ (fun rest acc s' => acc.1 = none ∧ ∃ i, rest = (xs.toList.zip ys.toList).drop i ∧ i ≤ xs.size ∧ G i s') _
  case turn =>
    rintro ⟨u, v⟩ rest acc s' ⟨ea, i, er, le, gi⟩
    have lt : i < (xs.toList.zip ys.toList).length := Nat.lt_of_not_le fun q => by rw [List.drop_of_length_le q] at er; cases er
    have h1 : i < xs.size := by rw [← zl]; exact lt
    have h2 : i < ys.size := by rw [← same]; exact h1
    rw [List.drop_eq_getElem_cons lt] at er
    injection er with euv erest
    obtain ⟨rfl, rfl⟩ : u = xs[i] ∧ v = ys[i] := ⟨by simpa using congrArg Prod.fst euv, by simpa using congrArg Prod.snd euv⟩
    refine wpAny_bind (wpAny_mono (one i h1 h2 s' gi) (fun r s2 q2 => ?_) fun _ _ x => x)
    obtain ⟨rfl, q2⟩ := q2
    wp_walk
    exact ⟨rfl, i + 1, erest, h1, q2⟩
  case fin =>
    rintro ⟨a1, a2⟩ s' ⟨ea, i, er, le, gi⟩
    simp only at ea
    subst ea
    have ge : xs.size ≤ i := by
      rw [← zl]
      exact Nat.le_of_not_lt fun q => by rw [List.drop_eq_getElem_cons q] at er; cases er
    obtain rfl : i = xs.size := by omega
    have z := fin s' gi
    wp_walk
    simpa [Builtin.Tuple.tupleCompareSizes, same] using z
  case h => exact ⟨rfl, 0, rfl, Nat.zero_le _, g00⟩
end
def rNeG (D : Eqv) : R2 := fun x y H Q => D x y H ∧ ∀ H', Ext H H' → Q (.bl false) H'
section
variable {X : Cx} {n : Nat} {D : Eqv}
theorem op_neTupG (mon : Mon D) (eqs : EqG X n D) (hr : Room (n + 1) X.A) : OpR X (compareOp .NotEq) (rNeG (DTup X.K D)) := by
  intro pins s σ H x y v u Q I rx ry h
  obtain ⟨⟨a, b, xs, ys, rfl, rfl, ha, hb, p⟩, q⟩ := h
  cases rx
  cases ry
  obtain ⟨its, r, e, z⟩ := I.tuple ha
  obtain ⟨its2, r2, e2, z2⟩ := I.tuple hb
  have sb : Sub X (n + 1) X.A := ⟨hr, rfl⟩
  have hsz : its.toArray.size = its2.toArray.size := by rw [List.size_toArray, List.size_toArray, ← r.length, ← r2.length]; exact p.1
  obtain ⟨⟨c1, d1, dt1, s1⟩, g1, k1, n1, m1⟩ := e
  obtain ⟨⟨c2, d2, dt2, s2⟩, g2, k2, n2, m2⟩ := e2
  simp only at k1 m1 k2 m2
  subst k1 m1 k2 m2
  show wpAny (model X.prog X.w) X.A (richCompare .NotEq (.ref a) (.ref b)) (EP X pins σ Q) X.xe s
  refine wpAny_richCompare_same_room (op := .NotEq) ⟨_, g1, rfl⟩ ⟨_, g2, rfl⟩ F.slot_tuple_ne (GQ.call_here F.slot_tuple_ne ⟨_, g1, rfl⟩ F.entry_tuple_ne (F.args_tuple_ne_2 _ _) ?_) hr.units0
  exact tup_ne (R := wants (fun v s' => v ≠ .notImplemented ∧ EP X pins σ Q v s') X.xe) a b its.toArray its2.toArray n1 n2 d1 d2 s1 s2 hsz (fun _ s' => LoopI X pins σ H s') (fun i h1 h2 s' q => turnG mon eqs sb p r r2 i h1 h2 s' q)
    (fun s' ⟨H', I', ex⟩ => ⟨(fun z => nomatch z), .bl false, H', I', rfl, q H' ex⟩) g1 g2 ⟨H, I, Ext.rfl'⟩
end
/-! ### instance != instance by the class's own == -/
section
variable {M : Model} {prog : Program} {w : World} {A : Around} {E : Value → Shared → Prop} {s : Shared} {K : PySem.W.Frag} {x C : Addr} {ox : Obj} {od : Option Obj}
theorem bound_ne {args : List Value} {Q : Option Value → Shared → Prop} (kin : K.In s.heap) (ia : PySem.W.InstAt s.heap x ox C od) (hs : PySem.W.findIn K (.ref C) "__ne__" = some (some (.builtin "object.__ne__")))
    (h : wpAny M A (call (.builtin "object.__ne__") (.ref x :: args)) (fun v => Q (some v)) E s) : wpAny M A (callSpecialIfBound? (.ref x) "__ne__" args) Q E s := by
  simp only [callSpecialIfBound?, bindSpecialIfBound?]
  have tail : wpAny M A (call (.builtin "object.__ne__") ([.ref x] ++ args) >>= fun v => pure (some v)) Q E s := wpAny_bind (wpAny_mono h (fun v s' z => wpAny_pure z) fun _ _ z => z)
  refine wpAny_holding (wpAny_bind (wpAny_bind (wpAny_bind (ia.type.here ((PySem.W.looks_findIn kin hs).here ?_)))))
  refine wpAny_bind (wpAny_askSetting (wpAny_ite ?_))
  have bnd := F.cmp_object.ne.bind (.ref x)
  split
  · exact wpAny_bind (wpAny_of_eq bnd (wpAny_pure (by exact tail)))
  · exact wpAny_tryCatch (wpAny_bind (wpAny_of_eq bnd (wpAny_pure (by exact tail))))
theorem entry_ne {y f : Addr} {Q : Fin → Shared → Prop} (hu : A.units < cLine) (kin : K.In s.heap) (ia : PySem.W.InstAt s.heap x ox C od) (hs : PySem.W.findIn K (.ref C) "__eq__" = some (some (.ref f))) (hf : PySem.W.isFn K (.ref f) = true)
    (h : wpAny M A (call (.ref f) [.ref x, .ref y]) (fun v s' => v = .bool true ∧ Q (.done (.ret (.bool false))) s') E s) : wpAny M A (Builtin.«object.__ne__» ⟨[.ref x, .ref y], []⟩) Q E s := by
  unfold Builtin.«object.__ne__»
  repeat (first
    | with_reducible refine wpAny_cRoomFor hu ?_
    | (refine wpAny_bind (m := callSpecialIfBound? (.ref x) (Str.ofString "__eq__") [.ref y]) (PySem.W.ifBound_K kin ia hs hf (wpAny_mono h (fun r s' z => by
          obtain ⟨rfl, q⟩ := z
          repeat (first | exact q | exact wpAny_pure q | exact wpAny_truthy_bool q | (refine wpAny_bind (m := truthy (.bool _)) (wpAny_truthy_bool ?_)) | wp_step)) fun _ _ z => z)))
    | wp_step)
end
section
variable {X : Cx} {n : Nat} {CX : CXT} {C f : Addr} {fd : FuncData} {ps : List Str} {Rl : Addr → Addr → Hp → Prop} {E : XK}
theorem op_neIns (Fn : FnOk X.prog X.w X.K X.mg X.base CX n f fd ps (spEq Rl)) (hs : PySem.W.findIn X.K (.ref C) "__eq__" = some (some (.ref f))) (hn : PySem.W.findIn X.K (.ref C) "__ne__" = some (some (.builtin "object.__ne__")))
    (hm : PySem.W.mroIn X.K C (.type "object") = some true) (hf : PySem.W.isFn X.K (.ref f) = true) (hb : Binds X.K fd ps []) (hx : Passes CX X E) (hr : Room (n + 1) X.A) : OpR X (compareOp .NotEq) (rNeG (DIns C Rl)) := by
  intro pins s σ H x y v u Q I rx ry h
  obtain ⟨⟨a, b, dx, dy, fs, gs, rfl, rfl, ha, hb', hR⟩, q⟩ := h
  cases rx
  cases ry
  obtain ⟨mA, J, _⟩ := ins_get I.hok ha
  obtain ⟨mB, J2, _⟩ := ins_get I.hok hb'
  obtain ⟨od, J, _⟩ := J.look
  obtain ⟨od2, J2, _⟩ := J2.look
  have hsp : spEq Rl [.ref a, .ref b] H (fun v H' => v = .bl true ∧ Ext H H') E := ⟨a, b, rfl, hR, fun H' e => ⟨rfl, e⟩⟩
  have len := Fn.len _ _ _ _ hsp
  have e1 : Env0 X.prog X.w X.K X.mg X.base X.A.in1 X.stack s H := I.env0.in1
  have run : wpAny (model X.prog X.w) X.A.in1 (call (.ref f) [.ref a, .ref b]) (fun v s' => v = .bool true ∧ ∃ H', Inv X pins σ H' s' ∧ Ext H H') X.xe s := by
    refine wpAny_call (codeAny_mono (Fn.run X.A.in1 X.stack s H ⟨[.ref a, .ref b], []⟩ [.ref a, .ref b] [.ref a, .ref b] _ E hr.in1 e1 (by
      have z := hb s [.ref a, .ref b] I.kIn (by simpa using len)
      simpa using z) (.cons rfl (.cons rfl .nil)) hsp) fun r s' hq => ?_)
    cases r with
    | error e => exact hx pins σ H s e s' I hq
    | ok fl =>
      cases fl with
      | ret w =>
        obtain ⟨z, H', I', rz, ez, ex⟩ := I.after hq
        subst ez
        cases rz
        exact ⟨rfl, H', I', ex⟩
      | next => exact False.elim hq
      | brk => exact False.elim hq
      | cont => exact False.elim hq
  have u0 : X.A.units < cLine := hr.units0
  have u1 : X.A.in1.units < cLine := hr.in1.units0
  have ne1 : wpAny (model X.prog X.w) X.A (call (.builtin "object.__ne__") [.ref a, .ref b]) (fun v s' => v = .bool false ∧ ∃ H', Inv X pins σ H' s' ∧ Ext H H') X.xe s := by
    refine wpAny_call (codeAny_call_builtin F.cmp_object.ne.plain F.cmpEntry_ne (PySem.W.check_slot F.cmpKind_ne F.cmpSplit_ne (J.type.andThen (PySem.W.looks_mroIn I.kIn hm)) (F.cmpArgs_ne _ _) ?_))
    refine entry_ne (A := X.A.in1) u1 I.kIn J hs hf (wpAny_mono run (fun v s' z => ?_) fun _ _ z => z)
    exact ⟨z.1, rfl, z.2⟩
  have try1 : wpAny (model X.prog X.w) X.A (tryCompare (.ref a) "__ne__" (.ref b)) (fun r s' => r = some (.bool false) ∧ ∃ H', Inv X pins σ H' s' ∧ Ext H H') X.xe s := by
    unfold tryCompare
    refine wpAny_bind (bound_ne I.kIn J hn (wpAny_mono ne1 (fun v s' z => ?_) fun _ _ z => z))
    obtain ⟨rfl, z⟩ := z
    exact wpAny_pure ⟨rfl, z⟩
  show wpAny (model X.prog X.w) X.A (richCompare .NotEq (.ref a) (.ref b)) (EP X pins σ Q) X.xe s
  unfold richCompare
  simp only [oneThing_ref]
  refine wpAny_holding (wpAny_bind (wpAny_cRoomFor u0 ?_))
  refine wpAny_bind (J.type.here (wpAny_bind (J2.type.here ?_)))
  split
  · rename_i z
    simp at z
  · rw [cmpInfo_NotEq]
    dsimp only
    refine wpAny_bind (wpAny_pure ?_)
    simp only [Bool.false_eq_true, if_false]
    refine wpAny_bind (wpAny_mono try1 (fun r s' z => ?_) fun _ _ z => z)
    obtain ⟨rfl, H', I', ex⟩ := z
    exact wpAny_pure ⟨.bl false, H', I', rfl, q H' ex⟩
end
/-! ### a tuple times 0 or 1 -/
theorem tup_mul1 (l : Addr) (xs : Array Value) (n : Nat) (dd : Option Addr) (sl : Array (Option Value)) (u : Tok) :
    Meets (Builtin.«tuple.__mul__» ⟨[.ref l, .int 1 u], []⟩) (fun _ R s => s.heap.get? l = some { cls := .type "tuple", dict := dd, data := .seq xs n, slots := sl } ∧ R (.ok (.ret (Value.ref l))) s) :=
  .of_wp fun prog w A R s h => by
    obtain ⟨hp, g, d, tk, os⟩ := s
    obtain ⟨hl, h⟩ := h
    have f1 := AutoSeq1.idx_int
    have c1 : (xs.isEmpty || (1 : Int) == 1) = true := by simp
    wp_walk using wpAny_loadPart' hl
    exact ⟨_, rfl, h⟩
theorem tup_mul0 (l : Addr) (xs : Array Value) (n : Nat) (dd : Option Addr) (sl : Array (Option Value)) (u : Tok) (ne : xs.isEmpty = false) :
    Meets (Builtin.«tuple.__mul__» ⟨[.ref l, .int 0 u], []⟩) (fun _ R s => s.heap.get? l = some { cls := .type "tuple", dict := dd, data := .seq xs n, slots := sl } ∧
      R (.ok (.ret (Value.ref s.heap.objs.size))) { s with heap := s.heap.push { cls := Value.type "tuple", data := Data.seq #[] } }) :=
  .of_wp fun prog w A R s h => by
    obtain ⟨hp, g, d, tk, os⟩ := s
    obtain ⟨hl, h⟩ := h
    have f1 := AutoSeq1.idx_int
    have c1 : (xs.isEmpty || (0 : Int) == 1) = false := by rw [ne]; rfl
    have c2 : (decide ((0 : Int) ≤ 0) || xs.isEmpty) = true := by simp
    wp_walk using wpAny_loadPart' hl
    exact ⟨_, rfl, h⟩
def rRepA (K : PySem.W.Frag) : R2 := fun x y H Q => ∃ (l : Addr) (k : Nat) (xs : List V), x = .ref l ∧ y = .int (k : Nat) ∧ SqT K H l xs ∧ xs ≠ [] ∧ k ≤ 1000 ∧ xs.length ≤ 1000 ∧ (k = 1 → Q (.ref l) H) ∧ (k ≠ 1 → ∀ p, H p = none → Q (.ref p) (upd H p (.tup (List.replicate k xs).flatten)))
theorem kRepA {X : Cx} (K : PySem.W.Frag) (hK : X.K = K) : OpR X (binaryOp .Mult) (rRepA K) := by
  subst hK
  intro pins s σ H x y v u Q I rx ry h
  obtain ⟨l, k, xs, rfl, rfl, hT, hne, hk, hz, q1, q2⟩ := h
  match k, hk, q1, q2, ry with
  | k + 2, hk, q1, q2, ry => exact op_repT pins s σ H _ _ v u Q I rx ry ⟨l, _, xs, rfl, rfl, hT, hne, by omega, by omega, hz, fun p hp => by rw [Int.toNat_natCast]; exact q2 (by omega) p hp⟩
  | 0, hk, q1, q2, ry =>
    cases rx
    obtain ⟨t, rfl⟩ := ry
    obtain ⟨its, r, ⟨⟨cls, dd, data, sl⟩, ho, hc, n, hd⟩, hs⟩ := I.tuple hT
    simp only at hc hd
    subst hc hd
    have ie : its.toArray.isEmpty = false := by
      cases r with
      | nil => exact absurd rfl hne
      | cons _ _ => rfl
    refine wpAny_binaryOp_repeat_ref (T := "tuple") (U := "int") (by decide) ⟨_, ho, rfl⟩ (fun s' => typeIs_int s' _ t) noFill_tuple_mul F.fills_int_mul F.slot_int_rmul repeat_tuple F.slot_int_index.lookup
      (call_meets F.slot_int_rmul (typeIs_int s _ t) F.entry_int_rmul (F.args_int_rmul_2 _ _) (int_rmul_tuple _ t l its.toArray n dd sl)
        ⟨ho, rfl, ⟨_, ho, rfl⟩, call_meets F.slot_tuple_mul ⟨_, ho, rfl⟩ F.entry_tuple_mul (F.args_tuple_mul_2 _ _) (tup_mul0 l its.toArray n dd sl t ie) ⟨ho, ?_⟩⟩)
    refine ⟨.ref s.heap.objs.size, _, I.laid (t' := s.toks) (o := .tup []) (fun b ob q => Heap.get?_push_of_some _ q) (Nat.le_refl _) ⟨Nat.zero_le _, [], .nil, IsTup.new _ _⟩, rfl, q2 (by decide) _ (I.hok.fresh (Nat.le_refl _))⟩
  | 1, hk, q1, q2, ry =>
    cases rx
    obtain ⟨t, rfl⟩ := ry
    obtain ⟨its, r, ⟨⟨cls, dd, data, sl⟩, ho, hc, n, hd⟩, hs⟩ := I.tuple hT
    simp only at hc hd
    subst hc hd
    refine wpAny_binaryOp_repeat_ref (T := "tuple") (U := "int") (by decide) ⟨_, ho, rfl⟩ (fun s' => typeIs_int s' _ t) noFill_tuple_mul F.fills_int_mul F.slot_int_rmul repeat_tuple F.slot_int_index.lookup
      (call_meets F.slot_int_rmul (typeIs_int s _ t) F.entry_int_rmul (F.args_int_rmul_2 _ _) (int_rmul_tuple _ t l its.toArray n dd sl)
        ⟨ho, rfl, ⟨_, ho, rfl⟩, call_meets F.slot_tuple_mul ⟨_, ho, rfl⟩ F.entry_tuple_mul (F.args_tuple_mul_2 _ _) (tup_mul1 l its.toArray n dd sl t) ⟨ho, ?_⟩⟩)
    exact ⟨.ref l, H, I, rfl, q1 rfl⟩
theorem kInD {X : Cx} (K : PySem.W.Frag) (hK : X.K = K) (hu : X.A.units + 65 < cLine) : OpR X (compareOp .In) (rInD K) := by subst hK; exact op_inD hu
theorem kNotInD {X : Cx} (K : PySem.W.Frag) (hK : X.K = K) (hu : X.A.units + 65 < cLine) : OpR X (compareOp .NotIn) (rNotInD K) := by subst hK; exact op_notInD hu
theorem kSortT {X : Cx} (K : PySem.W.Frag) (hK : X.K = K) {d : Nat} {B : Int} (hd : 1 ≤ d) : CallR X (.builtin "sorted") (rSortU K d B) := by subst hK; exact cr_sortT hd
end FYR

set_option Elab.async false
set_option linter.all false
set_option maxRecDepth 100000
set_option maxHeartbeats 4000000
/-! len by an own __len__; properties, own == and own len of a class in short -/
namespace FYR
open PySem PySem.Spec PyProof.Rows L2
section
variable {X : Cx} {n : Nat} {C f : Addr} {fd : FuncData} {ps : List Str} {sp : Sp}
def rLenO (C : Addr) (sp : Sp) : List V → Hp → VK → Prop := fun xs H Q => ∃ (a dx : Addr) (fs : List (Str × V)), xs = [.ref a] ∧ H a = some (.ins C dx fs) ∧ sp [.ref a] H (fun v H' => ∃ k : Nat, v = .int (k : Nat) ∧ k ≤ 1000000 ∧ Q (.int (k : Nat)) H') C8.E0
theorem call_lenO (Fn : FnOk X.prog X.w X.K X.mg X.base C8.CX0 n f fd ps sp) (hs : PySem.W.findIn X.K (.ref C) "__len__" = some (some (.ref f))) (hf : PySem.W.isFn X.K (.ref f) = true) (hb : Binds X.K fd ps []) (hr : Room (n + 1) X.A) : CallR X (.builtin "len") (rLenO C sp) := by
  intro pins s σ H xs us Q I r h
  obtain ⟨a, dx, fs, rfl, ha, q⟩ := h
  obtain ⟨u, rfl, ru⟩ := r.one
  cases ru
  obtain ⟨mA, J, _⟩ := ins_get I.hok ha
  obtain ⟨od, J, _⟩ := J.look
  have spc : PySem.W.Looks (model X.prog X.w) s.heap (specialOf (.ref a) "__len__") (some (.ref f)) := J.type.andThen (PySem.W.looks_findIn I.kIn hs)
  have len := Fn.len _ _ _ _ q
  have e1 : Env0 X.prog X.w X.K X.mg X.base X.A.in1 X.stack s H := I.env0.in1
  have run : wpAny (model X.prog X.w) X.A.in1 (call (.ref f) [.ref a]) (fun v s' => ∃ k : Nat, ∃ t, v = .int (k : Nat) t ∧ k ≤ 1000000 ∧ ∃ H', Inv X pins σ H' s' ∧ Q (.int (k : Nat)) H') (fun _ _ => False) s := by
    refine wpAny_call (codeAny_mono (Fn.run X.A.in1 X.stack s H ⟨[.ref a], []⟩ [.ref a] [.ref a] _ C8.E0 hr.in1 e1 (by
      have z := hb s [.ref a] I.kIn (by simpa using len)
      simpa using z) (.cons rfl .nil) q) fun r s' hq => ?_)
    cases r with
    | error e => exact False.elim hq
    | ok fl =>
      cases fl with
      | ret w =>
        obtain ⟨z, H', I', rz, k, ez, kl, qk⟩ := I.after hq
        subst ez
        obtain ⟨t, rfl⟩ := rz
        exact ⟨k, t, rfl, kl, H', I', qk⟩
      | next => exact False.elim hq
      | brk => exact False.elim hq
      | cont => exact False.elim hq
  refine Calls.call_function_entry kind_len plain_len entry_len (args_len1 _) ?_
  unfold Builtin.«len»
  refine wpAny_bind (m := oneArg "len" _) (wpAny_pure ?_)
  refine wpAny_bind (m := callSpecial? (.ref a) (PySem.Str.ofString "__len__")) ?_
  simp only [callSpecial?]
  refine wpAny_bind (spc.here ?_)
  refine wpAny_holding (wpAny_bind ((PySem.W.bind_fn I.kIn _ (beq_iff_eq.mp hf)).here ?_))
  refine wpAny_bind (wpAny_mono run (fun v s' z => ?_) fun _ _ z => z.elim)
  obtain ⟨k, t, rfl, kl, H', I', qk⟩ := z
  refine wpAny_pure ?_
  refine wpAny_bind (wpAny_holding (wpAny_pure ?_))
  refine wpAny_bind (wpAny_letGo ?_)
  show wpAny _ _ (if ((k : Nat) : Int) < 0 then _ else _) _ _ _
  rw [if_neg (by omega)]
  show wpAny _ _ (if ((k : Nat) : Int) ≥ 2 ^ 63 then _ else _) _ _ _
  rw [if_neg (by omega)]
  exact wpAny_bind (wpAny_mkInt (wpAny_pure ⟨_, rfl, .int (k : Nat), H', I'.tok _, ⟨_, rfl⟩, qk⟩))
end
/-- the class at C has an own __len__ -/
structure LenC (P : Program) (w : World) (K : PySem.W.Frag) (mg : Str → Option Value) (base : Heap) (k : Nat) (C : Addr) (sp : Sp) : Prop where
  ex : ∃ (f : Addr) (fd : FuncData) (ps : List Str), FnOk P w K mg base C8.CX0 k f fd ps sp ∧ PySem.W.findIn K (.ref C) "__len__" = some (some (.ref f)) ∧ PySem.W.isFn K (.ref f) = true ∧ Binds K fd ps []
/-- the class at C has an own == -/
structure EqC (P : Program) (w : World) (K : PySem.W.Frag) (mg : Str → Option Value) (base : Heap) (k : Nat) (C : Addr) (R : Addr → Addr → Hp → Prop) : Prop where
  ex : ∃ (f : Addr) (fd : FuncData) (ps : List Str), FnOk P w K mg base C8.CX0 k f fd ps (spEq R) ∧ PySem.W.findIn K (.ref C) "__eq__" = some (some (.ref f)) ∧ PySem.W.isFn K (.ref f) = true ∧ Binds K fd ps []
  ne : PySem.W.findIn K (.ref C) "__ne__" = some (some (.builtin "object.__ne__"))
  hm : PySem.W.mroIn K C (.type "object") = some true
/-- .. a property -/
structure Prp (P : Program) (w : World) (K : PySem.W.Frag) (mg : Str → Option Value) (base : Heap) (k : Nat) (C : Addr) (x : Str) (sp : Sp) : Prop where
  ex : ∃ (p g : Addr) (fd : FuncData) (ps : List Str), Cls K C ∧ PropOf K C x p g ∧ FnOk P w K mg base C8.CX0 k g fd ps sp ∧ Binds K fd ps []
section
variable {X : Cx} {k j : Nat} {C : Addr} {sp : Sp} {R : Addr → Addr → Hp → Prop}
theorem kLenO (c : LenC X.prog X.w X.K X.mg X.base k C sp) (hr : Room j X.A) (hk : k + 1 ≤ j) : CallR X (.builtin "len") (rLenO C sp) := by
  obtain ⟨f, fd, ps, F, hs, hf, hb⟩ := c.ex
  exact call_lenO F hs hf hb (hr.mono hk)
theorem kEqO (c : EqC X.prog X.w X.K X.mg X.base k C R) (hr : Room j X.A) (hk : k ≤ j) : OpR X (compareOp .Eq) (rEqG (DIns C R)) := by
  obtain ⟨f, fd, ps, F, hs, hf, hb⟩ := c.ex
  exact op_eqG (rcG_ins F hs hf hb (C8.pass0 (E := C8.E0))) (hr.mono hk)
theorem kNeO (c : EqC X.prog X.w X.K X.mg X.base k C R) (hr : Room j X.A) (hk : k + 1 ≤ j) : OpR X (compareOp .NotEq) (rNeG (DIns C R)) := by
  obtain ⟨f, fd, ps, F, hs, hf, hb⟩ := c.ex
  exact op_neIns F hs c.ne c.hm hf hb (C8.pass0 (E := C8.E0)) (hr.mono hk)
theorem kNeTupO (K : PySem.W.Frag) (hK : X.K = K) (c : EqC X.prog X.w X.K X.mg X.base k C R) (mon : ∀ a b H H', Ext H H' → R a b H → R a b H') (hr : Room j X.A) (hk : k + 1 ≤ j) : OpR X (compareOp .NotEq) (rNeG (DTup K (DIns C R))) := by
  subst hK
  obtain ⟨f, fd, ps, F, hs, hf, hb⟩ := c.ex
  exact op_neTupG (mon_ins mon) (eqG_ins F hs hf hb (C8.pass0 (E := C8.E0))) (hr.mono hk)
theorem kPrp {x : Str} {e : Expr} {ta : TE} {pos : Pos} (c : Prp X.prog X.w X.K X.mg X.base k C x sp) (hr : Room j X.A) (hk : k + 1 ≤ j) (he : PE X e ta) (hab : attributeBase e x X.env (eval e X.env) = eval e X.env := by rfl) : PE X (.Attribute e x pos) (tProp C sp [] C8.E0 ta) := by
  obtain ⟨p, g, fd, ps, cl, hp, F, hb⟩ := c.ex
  exact pe_prop he cl hp F (hr.mono hk) hb .nil C8.pass0 hab
end
end FYR

set_option Elab.async false
set_option linter.all false
set_option maxRecDepth 100000
set_option maxHeartbeats 4000000
/-! list == [] -/
namespace FYR
open PySem PySem.Spec PyProof.Rows L2
open AutoSeq1 (wpAny_loadPart')
theorem list_eqLen {prog : Program} {w : World} {A : Around} {R : Result → Shared → Prop} (l b : Addr) (xs ys : Array Value) (n m : Nat) (ne : xs.size ≠ ys.size) {s : Shared} (hl : s.heap.get? l = some { cls := .type "list", data := .seq xs n }) (hb : s.heap.get? b = some { cls := .type "list", data := .seq ys m })
    (h : R (.ok (.ret (.bool false))) s) : wpAny (model prog w) A.in1 (Builtin.«list.__eq__» ⟨[.ref l, .ref b], []⟩) (GQ.FinOf prog w A R) (fun e s' => R (.error e) s') s := by
  obtain ⟨hp, g, d, tk, os⟩ := s
  have f3 := AutoSeq1.sub_list_list
  have c1 : (xs.size != ys.size) = true := by simp [ne]
  wp_walk using wpAny_loadPart' hl, wpAny_loadPart' hb
  exact h
def rEqN : R2 := fun x y H Q => ∃ (a b : Addr) (xs : List V), x = .ref a ∧ y = .ref b ∧ H a = some (.lst xs) ∧ H b = some (.lst []) ∧ Q (.bl xs.isEmpty) H
theorem op_eqN {X : Cx} (hu : X.A.units + 64 < cLine) : OpR X (compareOp .Eq) rEqN := by
  intro pins s σ H x y v u Q I rx ry h
  obtain ⟨a, b, xs, rfl, rfl, ha, hb, q⟩ := h
  cases xs with
  | nil => exact op_eqD hu pins s σ H _ _ v u Q I rx ry ⟨.list [], .list [], .lst (SqL.of ha) .nil, .lst (SqL.of hb) .nil, by decide +kernel, by decide +kernel, q⟩
  | cons z zs =>
    cases rx
    cases ry
    obtain ⟨_, its, k, r, e⟩ := I.hok a _ ha
    obtain ⟨_, its2, k2, r2, e2⟩ := I.hok b _ hb
    have l1 := r.length
    have l2 := r2.length
    show wpAny (model X.prog X.w) X.A (richCompare .Eq (.ref a) (.ref b)) (EP X pins σ Q) X.xe s
    refine wpAny_richCompare_same_room (op := .Eq) ⟨_, e, rfl⟩ ⟨_, e2, rfl⟩ F.slot_list_eq (GQ.call_here F.slot_list_eq ⟨_, e, rfl⟩ F.entry_list_eq (F.args_list_eq_2 _ _) ?_) (by omega)
    refine list_eqLen (R := wants (fun v s' => v ≠ .notImplemented ∧ EP X pins σ Q v s') X.xe) a b its.toArray its2.toArray k k2 ?_ e e2 ⟨(fun z => nomatch z), .bl false, H, I, rfl, q⟩
    rw [List.size_toArray, List.size_toArray, ← l1, ← l2]
    simp
end FYR

set_option Elab.async false
set_option linter.all false
set_option maxRecDepth 100000
set_option maxHeartbeats 4000000
namespace FY
open PySem L2 FYR
theorem mk_same {C x dx : Addr} {H : Hp} (hx : H x = none) (hdx : H dx = none) : Same H (upd (upd H dx (.own x)) x (.ins C dx [])) := fun b o e => by
  rw [upd_ne (ne_of_none e hx), upd_ne (ne_of_none e hdx)]
  exact e
theorem mk_after {x : Addr} {H H1 H2 : Hp} (hx : H x = none) (m : Same H H1) (k : ∀ b o, b ≠ x → H1 b = some o → H2 b = some o) : Same H H2 := fun b o e => k b o (ne_of_none e hx) (m _ _ e)
theorem DrA.keep {CD C : Addr} {H H' : Hp} {d S Pp : Addr} {ts : List Stn} {ps : List Pipe} (h : DrA CD C H d S Pp ts ps) (k : NL H H') (hS : ∀ xs, H S = some (.lst xs) → H' S = some (.lst xs)) (hP : ∀ xs, H Pp = some (.lst xs) → H' Pp = some (.lst xs)) : DrA CD C H' d S Pp ts ps := by
  obtain ⟨⟨dx, hd⟩, ⟨vs, h1, p1⟩, ⟨ws, h2, p2⟩, ne⟩ := h
  exact ⟨⟨dx, k _ _ (fun xs z => nomatch z) hd⟩, ⟨vs, hS _ h1, stn_all k p1⟩, ⟨ws, hP _ h2, pipe_all k.tups p2⟩, ne⟩
theorem DrA.same {CD C : Addr} {H H' : Hp} {d S Pp : Addr} {ts : List Stn} {ps : List Pipe} (h : DrA CD C H d S Pp ts ps) (k : Same H H') : DrA CD C H' d S Pp ts ps := h.keep (NL.of k) (fun xs e => k _ _ e) (fun xs e => k _ _ e)
theorem DrA.neS {CD C : Addr} {H : Hp} {d S Pp p : Addr} {ts : List Stn} {ps : List Pipe} (h : DrA CD C H d S Pp ts ps) (hp : H p = none) : p ≠ S ∧ p ≠ Pp := by
  obtain ⟨_, ⟨vs, h1, p1⟩, ⟨ws, h2, p2⟩, ne⟩ := h
  exact ⟨fun z => (by rw [z, h1] at hp; cases hp), fun z => (by rw [z, h2] at hp; cases hp)⟩
/-- all but the two lists -/
def Fr (S Pp : Addr) (H H' : Hp) : Prop := ∀ b o, b ≠ S → b ≠ Pp → H b = some o → H' b = some o
theorem Fr.of {S Pp : Addr} {H H' : Hp} (s : Same H H') : Fr S Pp H H' := fun b o _ _ e => s b o e
theorem Fr.trans {S Pp : Addr} {H H1 H2 : Hp} (a : Fr S Pp H H1) (b : Fr S Pp H1 H2) : Fr S Pp H H2 := fun c o h1 h2 e => b c o h1 h2 (a c o h1 h2 e)
theorem Fr.nl {CD C : Addr} {H H' : Hp} {d S Pp : Addr} {ts : List Stn} {ps : List Pipe} (f : Fr S Pp H H') (h : DrA CD C H d S Pp ts ps) : NL H H' := fun b o n e => by
  obtain ⟨_, ⟨vs, h1, p1⟩, ⟨ws, h2, p2⟩, ne⟩ := h
  exact f b o (fun z => by rw [z, h1] at e; exact n _ (Option.some.inj e).symm) (fun z => by rw [z, h2] at e; exact n _ (Option.some.inj e).symm) e
theorem Fr.none {CD C : Addr} {H H' : Hp} {d S Pp p : Addr} {ts ts' : List Stn} {ps ps' : List Pipe} (f : Fr S Pp H H') (h : DrA CD C H' d S Pp ts ps) (hp : H' p = none) : H p = none := by
  obtain ⟨n1, n2⟩ := h.neS hp
  cases e : H p with
  | none => rfl
  | some o => rw [f p o n1 n2 e] at hp; cases hp
theorem lna_all {H H' : Hp} (k : Tups H H') : ∀ {vs : List V} {ls : List Ln}, Paired (LnA H) vs ls → Paired (LnA H') vs ls
  | _, _, .nil => .nil
  | _, _, .cons r q => .cons (r.keep k) (lna_all k q)
theorem pipesOf_len (n : Nat) : ∀ (p : Nat) (ls : List Ln), (pipesOf n p ls).length ≤ ls.length
  | p, [] => Nat.le_refl 0
  | p, none :: r => Nat.le_succ_of_le (pipesOf_len n (p + 1) r)
  | p, some _ :: r => Nat.succ_le_succ (pipesOf_len n (p + 1) r)
theorem copS_len : ∀ (k : Nat) (st : Stt) (l : Ln), (copS k st l).1.1.length = st.1.length + k ∧ (copS k st l).1.2.length ≤ st.2.length + k ∧ (copS k st l).2.1.length = k
  | 0, st, l => ⟨rfl, Nat.le_refl _, rfl⟩
  | k + 1, st, l => by
    obtain ⟨h1, h2, h3⟩ := copS_len k st l
    have h4 := pipesOf_len (copS k st l).1.1.length 0 [(copS k st l).2.2]
    refine ⟨by simp [copS, putS, h1]; omega, ?_, by simp [copS, h3]⟩
    simp only [copS, putS, List.length_append, List.length_cons, List.length_nil] at h4 ⊢
    omega
def cpR (x : Bool) : Rw := ⟨[[x], [x]], 0, 1⟩
def spCopies (CD C : Addr) : Sp := fun vs H Q _ => ∃ (d S Pp : Addr) (v : V) (l : Ln) (k : Nat) (ts : List Stn) (ps : List Pipe), vs = [.ref d, v, .int ((k + 1 : Nat) : Int)] ∧ DrA CD C H d S Pp ts ps ∧ LnA H v l ∧ ts.length + k ≤ 900 ∧ ps.length + k ≤ 900 ∧
  ∀ H' p lv, Fr S Pp H H' → H p = none → H' p = some (.lst lv) → Paired (LnA H') lv (copL k (ts, ps) l) → DrA CD C H' d S Pp (copS k (ts, ps) l).1.1 (copS k (ts, ps) l).1.2 → Q (.ref p) H'
theorem lkA (S Pp : Addr) : (dflds S Pp).lookup ("add" : Str) = none := rfl
section
variable {P : Program} {w : World} {K : PySem.W.Frag} {mg : Str → Option Value} {base : Heap} {aS a1 a2 aL aT : Addr} {f : Addr} {fd : FuncData} {C CD : Addr}
abbrev s_Draft_copies : Stmt := inClass (top 107) 2
abbrev N_Draft_copies : List Str := ["self", "line", "many", "found", "last", "turn", "both", "number", "sign"]
theorem sc_Draft_copies : FnScope N_Draft_copies ["self", "line", "many"] (defScope s_Draft_copies) := ⟨rfl, rfl, rfl, by decide +kernel, rfl, by decide +kernel, by decide +kernel⟩
theorem ok_Draft_copies (F : Fun K "copies" "Draft.copies" s_Draft_copies f fd) (T : Txt K mg aS a1 a2) (mk_Station : C8.Mak P w K mg base 6 "Station" C (spStInit C) []) (m_Draft_add : C8.Met P w K mg base 1 CD "add" (spAdd CD C) []) : FnOk P w K mg base CX0 8 f fd ["self", "line", "many"] (spCopies CD C) := by
  refine F.ok sc_Draft_copies (fun vs H Q E h => ?_) (fun cdv A outer s H vs Q E hr h => ?_)
  · obtain ⟨d, S, Pp, v, l, k, ts, ps, rfl, _⟩ := h
    rfl
  obtain ⟨d, S, Pp, v, l, k, ts, ps, rfl, dr, hv, m1, m2, q⟩ := h
  refine ⟨_, (pss_cons (ps_par (i := 3) (j := 4) rfl sc_Draft_copies.nd rfl rfl (by decide) rfl rfl (pa_cons (pe_lst pa_nil) (pa_cons (pv 1) pa_nil)) rfl)
        (pss_cons (ps_for PassesOwn.never rfl (pi_range1 rfl T.b_range (pa_cons (pe_op op_sub (pv 2) pe_int) pa_nil)) (pg_name (i := 5) sc_Draft_copies.nd rfl (Or.inl rfl))
        (pss_cons (ps_setLc (i := 6) (own := [("sign", 8)]) rfl sc_Draft_copies.nd rfl rfl (sw_true rfl rfl rfl (by decide +kernel)) (pi_str pe_str) (blkOk_by (N := N_Draft_copies) (sc := defScope s_Draft_copies) (by decide +kernel)) (fun _ _ _ _ _ => (pg_name (i := 8) sc_Draft_copies.nd rfl (Or.inl rfl))) (fun _ _ _ _ _ => pts_nil) (fun _ _ _ _ _ => (pe_tup (pa_cons (pe_tup (pa_cons (pv 8) (pa_cons (pv 8) pa_nil))) (pa_cons pe_int (pa_cons pe_int pa_nil))))))
        (pss_cons (ps_set (i := 7) sc_Draft_copies.nd rfl (Or.inl rfl) (C8.pe_mt m_Draft_add hr (by decide) (pv 0) (pa_cons (C8.pe_mk mk_Station hr (by decide) rfl (pa_cons pe_int (pa_cons pe_int (pa_cons (pe_lst (pa_cons (pe_tup (pa_cons pe_str (pa_cons (pv 6) pa_nil))) pa_nil)) pa_nil)))) (pa_cons (pe_lst (pa_cons (pv 4) pa_nil)) pa_nil))))
        (pss_cons (ps_expr (kBm K rfl PySem.F.plainAttrs_list PySem.F.slot_list_append PySem.F.type_list_append mt_append (pv 3) (pa_cons (pe_tup (pa_cons (pv 7) (pa_cons pe_int pa_nil))) pa_nil)))
        (pss_one (ps_set (i := 4) sc_Draft_copies.nd rfl (Or.inl rfl) (pe_tup (pa_cons (pv 7) (pa_cons pe_int pa_nil)))))))))
        (pss_one (ps_ret (pe_op op_cat (pv 3) (pe_lst (pa_cons (pv 4) pa_nil))))))), ?_⟩
  refine ⟨Nat.zero_le _, fun F0 hF0 => ⟨_, rfl, _, _, rfl, ?_⟩⟩
  have s0 := same_new hF0 (.lst [])
  obtain ⟨nFS, nFP⟩ := dr.neS hF0
  have ek : (((k + 1 : Nat) : Int) - 1).toNat = k := by omega
  refine ⟨_, rfl, _, _, rfl, rfl, _, rfl, ?_, ?_, for_it walk_range (fun i σ H' => ∃ (lv : V) (z5 z6 z7 : Option V) (fv : List V), σ = [some (.ref d), some v, some (.int ((k + 1 : Nat) : Int)), some (.ref F0), some lv, z5, z6, z7, none] ∧ Fr S Pp H H' ∧ H' F0 = some (.lst fv) ∧ Paired (LnA H') fv (copS i (ts, ps) l).2.1 ∧ LnA H' lv (copS i (ts, ps) l).2.2 ∧ DrA CD C H' d S Pp (copS i (ts, ps) l).1.1 (copS i (ts, ps) l).1.2) ?h0 ?hG ?hs ?hd⟩
  · omega
  · omega
  case h0 => exact ⟨v, _, _, _, [], rfl, Fr.of s0, upd_same, .nil, hv.keep (Tups.of s0), dr.same s0⟩
  case hG => exact fun _ _ _ _ _ => trivial
  case hs =>
    rintro i x σ H1 H2 hi ⟨lv, z5, z6, z7, fv, rfl, fr, hF1, pf, hlv, dr1⟩ ⟨rfl, rfl⟩
    rw [ek] at hi
    obtain ⟨c1, c2, c3⟩ := copS_len i (ts, ps) l
    simp only at c1 c2
    have lf := paired_len pf
    rw [z01]
    refine ⟨_, rfl, fun B hB => lc_it walk_str (fun j H' => Same H2 H' ∧ ∃ us, H' B = some (.lst us) ∧ Paired (RwA H') us (([false, true].take j).map cpR)) ⟨same_new hB _, [], upd_same, .nil⟩ (fun _ _ _ _ => trivial) ?_ ?_⟩
    · rintro j x H3 H4 hj ⟨sm, us, hd, pu⟩ ⟨rfl, c, hc, rfl⟩
      obtain ⟨x, hx, rfl⟩ := tx_char hc
      have hil := lt_len hx
      have hlu := paired_len pu
      refine ⟨rfl, tyI ⟨_, rfl, _, rfl, sz rfl, fun g hg => ⟨sz rfl, fun a ha => ?_⟩⟩⟩
      have k1 := same_new hg (.tup [.str ⟨#[cd x]⟩, .str ⟨#[cd x]⟩])
      have k2 := same_new ha (.tup [.ref g, .int 0, .int 1])
      have hd2 := k2 _ _ (k1 _ _ hd)
      refine ⟨_, hd2, ?_, same_at ((sm.trans' k1).trans' k2) hB, us ++ [.ref a], upd_same, ?_⟩
      · rw [List.length_map, List.length_take] at hlu
        exact Nat.lt_of_lt_of_le (show us.length < 100000 by have : j < 2 := hil; omega) (by decide)
      · rw [← take_one _ hx]
        exact paired_app (rwA_all ((Tups.of (k1.trans' k2)).trans (tups_at hd2)) pu) (.cons ⟨a, g, rfl, tups_at hd2 _ _ upd_same, tups_at hd2 _ _ (k2 _ _ upd_same)⟩ .nil)
    · rintro H3 ⟨sm, us, hd, pu⟩
      have pu2 : Paired (RwA H3) us [cpR false, cpR true] := pu
      have dr3 := dr1.same sm
      obtain ⟨dx0, hdx0⟩ := dr3.ob
      refine ⟨_, rfl, d, dx0, _, rfl, hdx0, lkA S Pp, ?_⟩
      refine ⟨_, rfl, sz rfl, fun t0 ht0 => ⟨sz rfl, fun L hL => ?_⟩⟩
      have k1 := same_new ht0 (.tup [.str "1", .ref B])
      have k2 := same_new hL (.lst [.ref t0])
      intro x dx hx hdx hne
      have mm := mk_same (C := C) hx hdx
      refine ⟨x, L, dx, [.ref t0], copySt, rfl, upd_same, mm _ _ upd_same, told_all mm (.cons ⟨t0, B, us, rfl, k2 _ _ upd_same, k2 _ _ (k1 _ _ hd), rwA_all (Tups.of (k1.trans' k2)) pu2⟩ .nil), copy_ok, fun H5 k5 st5 => ⟨rfl, ?_⟩⟩
      have s5 := mk_after hx mm k5
      have s25 := ((sm.trans' k1).trans' k2).trans' s5
      refine ⟨_, rfl, sz rfl, fun L2 hL2 => ?_⟩
      have k6 := same_new hL2 (.lst [lv])
      have dr6 := (dr1.same s25).same k6
      obtain ⟨n1, n2⟩ := (dr1.same s25).neS hL2
      refine ⟨d, S, Pp, L2, _, copySt, _, _, [lv], [_], rfl, dr6, st5.but2 (NL.of k6), upd_same, .cons (hlv.keep (Tups.of (s25.trans' k6))) .nil, n1, n2, by omega, by omega, (by decide : 1 ≤ 1000), fun H7 f7 dr7 => ?_⟩
      have f17 : Fr S Pp H2 H7 := (Fr.of (s25.trans' k6)).trans f7
      have nl17 := f17.nl dr1
      have hF7 : H7 F0 = some (.lst fv) := f17 _ _ nFS nFP hF1
      refine ⟨_, rfl, .inl ⟨rfl, _, SqL.of hF7⟩, _, rfl, sz rfl, fun t1 ht1 => ?_⟩
      have k8 := same_new ht1 (.tup [.int (copS i (ts, ps) l).1.1.length, .int 0])
      have hF8 := k8 _ _ hF7
      refine ⟨F0, fv, .ref t1, rfl, rfl, hF8, ?_, ?_⟩
      · exact Nat.lt_of_lt_of_le (show fv.length < 100000 by omega) (by decide)
      refine ⟨_, rfl, sz rfl, fun t2 ht2 => ?_⟩
      obtain ⟨H8, hH8⟩ : ∃ H8, H8 = upd (upd H7 t1 (.tup [.int (copS i (ts, ps) l).1.1.length, .int 0])) F0 (.lst (fv ++ [.ref t1])) := ⟨_, rfl⟩
      have nl8 : NL H7 H8 := by rw [hH8]; exact (NL.of k8).trans (NL.at hF8)
      have fr8 : ∀ b o, b ≠ F0 → H7 b = some o → H8 b = some o := fun b o hb e => by rw [hH8, upd_ne hb]; exact k8 _ _ e
      have hF9 : H8 F0 = some (.lst (fv ++ [.ref t1])) := by rw [hH8, upd_same]
      have ht1' : H8 t1 = some (.tup [.int (copS i (ts, ps) l).1.1.length, .int 0]) := by
        rw [hH8, upd_ne (fun z => by rw [z, hF7] at ht1; cases ht1), upd_same]
      rw [← hH8] at ht2 ⊢
      clear hH8
      have k9 := same_new ht2 (.tup [.int (copS i (ts, ps) l).1.1.length, .int 1])
      have dr9 : DrA CD C H8 d S Pp _ _ := dr7.keep nl8 (fun xs e => fr8 _ _ (Ne.symm nFS) e) (fun xs e => fr8 _ _ (Ne.symm nFP) e)
      refine ⟨.ref t2, _, _, _, fv ++ [.ref t1], rfl, fun b o h1 h2 e => ?_, k9 _ _ hF9, ?_, ⟨t2, rfl, upd_same⟩, dr9.same k9⟩
      · exact k9 _ _ (fr8 b o (ne_of_none e hF0) (f17 b o h1 h2 (fr b o h1 h2 e)))
      · exact paired_app (lna_all ((nl17.trans nl8).tups.trans (Tups.of k9)) pf) (.cons ⟨t1, rfl, k9 _ _ ht1'⟩ .nil)
  case hd =>
    rintro σ H1 ⟨lv, z5, z6, z7, fv, rfl, fr, hF1, pf, hlv, dr1⟩
    rw [ek] at pf hlv dr1
    obtain ⟨c1, c2, c3⟩ := copS_len k (ts, ps) l
    have lf := paired_len pf
    refine ⟨_, rfl, _, rfl, sz rfl, fun L hL => ?_⟩
    have k1 := same_new hL (.lst [lv])
    refine ⟨F0, L, fv, [lv], rfl, rfl, k1 _ _ hF1, upd_same, ?_, fun p hp => ?_⟩
    · exact Nat.le_trans (show fv.length + 1 ≤ 100000 by omega) (by decide)
    have k2 := same_new hp (.lst (fv ++ [lv]))
    have k12 := k1.trans' k2
    refine q _ p _ (fr.trans (Fr.of k12)) (Fr.none (ts' := []) (ps' := []) (fr.trans (Fr.of k1)) (dr1.same k1) hp) upd_same ?_ (dr1.same k12)
    exact paired_app (lna_all (Tups.of k12) pf) (.cons (hlv.keep (Tups.of k12)) .nil)
end
end FY


set_option Elab.async false
set_option linter.all false
set_option maxRecDepth 100000
set_option maxHeartbeats 4000000
namespace FY
open PySem L2 FYR
theorem outer_le : ∀ t : Tm, outerN t ≤ t.nodes
  | .inn => Nat.le_refl 1
  | .one _ t => Nat.le_succ_of_le (outer_le t)
  | .late _ t => Nat.le_succ_of_le (outer_le t)
  | .byy _ _ _ _ t u => by have := outer_le t; have := outer_le u; simp [outerN, Tm.nodes]; omega
  | .keep t u => by have := outer_le t; have := outer_le u; simp [outerN, Tm.nodes]; omega
  | .thn t u => by have := outer_le t; simp [outerN, Tm.nodes]; omega
theorem sumO_app : ∀ a b : List Tm, sumO (a ++ b) = sumO a + sumO b
  | [], b => by simp [sumO]
  | t :: a, b => by simp [sumO, sumO_app a b]; omega
theorem sumO_le : ∀ a : List Tm, sumO a ≤ sumN a
  | [] => Nat.le_refl 0
  | t :: r => by have := outer_le t; have := sumO_le r; simp [sumO, sumN]; omega
/-! the parts of a node, one behind another -/
abbrev Acc := List Ln × List Ln × Stt
def stepP (a : Acc) (t : Tm) : Acc := (a.1 ++ [(partS t a.2.1 a.2.2).1], (partS t a.2.1 a.2.2).2.1, (partS t a.2.1 a.2.2).2.2)
def foldP (us : List Tm) (ls : List Ln) (st : Stt) : Acc := us.foldl stepP ([], ls, st)
theorem foldP_snoc (us : List Tm) (u : Tm) (ls : List Ln) (st : Stt) : foldP (us ++ [u]) ls st = stepP (foldP us ls st) u := by simp [foldP, List.foldl_append]
theorem partS_fold {t : Tm} (h : t.isIn = false) (h2 : t.isThn = false) (ls : List Ln) (st : Stt) : partS t ls st = (some ((foldP t.parts ls st).2.2.1.length, 0), (foldP t.parts ls st).2.1, putS (foldP t.parts ls st).2.2 (stOf t) (foldP t.parts ls st).1) := by
  cases t with
  | inn => cases h
  | thn _ _ => cases h2
  | _ => rfl
structure LenS (st : Stt) (o n : Nat) (st' : Stt) : Prop where
  up : st'.1.length + o ≤ st.1.length + n
  ge : st.1.length ≤ st'.1.length
  pp : st'.2.length + 2 * st.1.length ≤ st.2.length + 2 * st'.1.length
theorem putS_len (st : Stt) (t : Stn) (ls : List Ln) (h : ls.length ≤ 2) : (putS st t ls).1.length = st.1.length + 1 ∧ (putS st t ls).2.length ≤ st.2.length + 2 := by
  have := pipesOf_len st.1.length 0 ls
  simp [putS]
  omega
theorem copS_pp : ∀ (k : Nat) (st : Stt) (l : Ln), (copS k st l).1.2.length + 2 * st.1.length ≤ st.2.length + 2 * (copS k st l).1.1.length := fun k st l => by
  obtain ⟨h1, h2, _⟩ := copS_len k st l
  omega
theorem partS_len : ∀ (t : Tm) (ls : List Ln) (st : Stt), LenS st (outerN t) t.nodes (partS t ls st).2.2 ∧ (partS t ls st).2.1 = ls.drop (outerN t) := by
  intro t
  induction t with
  | inn => intro ls st; exact ⟨⟨Nat.le_refl _, Nat.le_refl _, Nat.le_refl _⟩, by cases ls <;> rfl⟩
  | one w t ih =>
    intro ls st
    obtain ⟨⟨a, b, c⟩, d⟩ := ih ls st
    obtain ⟨p1, p2⟩ := putS_len (partS t ls st).2.2 (stOf (.one w t)) [(partS t ls st).1] (by simp)
    refine ⟨⟨?_, ?_, ?_⟩, d⟩ <;> simp only [partS, outerN, Tm.nodes] <;> omega
  | late w t ih =>
    intro ls st
    obtain ⟨⟨a, b, c⟩, d⟩ := ih ls st
    obtain ⟨p1, p2⟩ := putS_len (partS t ls st).2.2 (stOf (.late w t)) [(partS t ls st).1] (by simp)
    refine ⟨⟨?_, ?_, ?_⟩, d⟩ <;> simp only [partS, outerN, Tm.nodes] <;> omega
  | byy b1 b2 b3 b4 t u i1 i2 =>
    intro ls st
    obtain ⟨⟨a, b, c⟩, d⟩ := i1 ls st
    obtain ⟨⟨a', b', c'⟩, d'⟩ := i2 (partS t ls st).2.1 (partS t ls st).2.2
    obtain ⟨p1, p2⟩ := putS_len (partS u (partS t ls st).2.1 (partS t ls st).2.2).2.2 (stOf (.byy b1 b2 b3 b4 t u)) [(partS t ls st).1, (partS u (partS t ls st).2.1 (partS t ls st).2.2).1] (by simp)
    refine ⟨⟨?_, ?_, ?_⟩, ?_⟩
    · simp only [partS, outerN, Tm.nodes]; omega
    · simp only [partS, outerN, Tm.nodes]; omega
    · simp only [partS, outerN, Tm.nodes]; omega
    · show (partS u (partS t ls st).2.1 (partS t ls st).2.2).2.1 = _
      rw [d', d, List.drop_drop]
      rfl
  | keep t u i1 i2 =>
    intro ls st
    obtain ⟨⟨a, b, c⟩, d⟩ := i1 ls st
    obtain ⟨⟨a', b', c'⟩, d'⟩ := i2 (partS t ls st).2.1 (partS t ls st).2.2
    obtain ⟨p1, p2⟩ := putS_len (partS u (partS t ls st).2.1 (partS t ls st).2.2).2.2 (stOf (.keep t u)) [(partS t ls st).1, (partS u (partS t ls st).2.1 (partS t ls st).2.2).1] (by simp)
    refine ⟨⟨?_, ?_, ?_⟩, ?_⟩
    · simp only [partS, outerN, Tm.nodes]; omega
    · simp only [partS, outerN, Tm.nodes]; omega
    · simp only [partS, outerN, Tm.nodes]; omega
    · show (partS u (partS t ls st).2.1 (partS t ls st).2.2).2.1 = _
      rw [d', d, List.drop_drop]
      rfl
  | thn t u i1 i2 =>
    intro ls st
    obtain ⟨⟨a, b, c⟩, d⟩ := i1 ls st
    obtain ⟨h1, h2, h3⟩ := copS_len (outerN u - 1) (partS t ls st).2.2 (partS t ls st).1
    obtain ⟨⟨a', b', c'⟩, d'⟩ := i2 ((copS (outerN u - 1) (partS t ls st).2.2 (partS t ls st).1).2.1 ++ [(copS (outerN u - 1) (partS t ls st).2.2 (partS t ls st).1).2.2]) (copS (outerN u - 1) (partS t ls st).2.2 (partS t ls st).1).1
    have up := outer_pos u
    refine ⟨⟨?_, ?_, ?_⟩, d⟩ <;> simp only [partS, outerN, Tm.nodes] <;> omega
theorem foldP_len (ls : List Ln) (st : Stt) (us : List Tm) : LenS st (sumO us) (sumN us) (foldP us ls st).2.2 ∧ (foldP us ls st).2.1 = ls.drop (sumO us) ∧ (foldP us ls st).1.length = us.length := by
  have key : ∀ us : List Tm, LenS st (sumO us.reverse) (sumN us.reverse) (foldP us.reverse ls st).2.2 ∧ (foldP us.reverse ls st).2.1 = ls.drop (sumO us.reverse) ∧ (foldP us.reverse ls st).1.length = us.reverse.length := by
    intro us
    induction us with
    | nil => exact ⟨⟨Nat.le_refl _, Nat.le_refl _, Nat.le_refl _⟩, rfl, rfl⟩
    | cons u us ih =>
      obtain ⟨⟨a, b, c⟩, d, e⟩ := ih
      rw [List.reverse_cons, foldP_snoc]
      generalize us.reverse = us at *
      obtain ⟨⟨a', b', c'⟩, d'⟩ := partS_len u (foldP us ls st).2.1 (foldP us ls st).2.2
      simp only [stepP, sumO_app, sumN_app, sumO, sumN, List.length_append, List.length_cons, List.length_nil]
      exact ⟨⟨by omega, by omega, by omega⟩, by rw [d', d, List.drop_drop]; simp, by omega⟩
  have := key us.reverse
  rwa [List.reverse_reverse] at this
/-- all but three lists -/
def Fr3 (S Pp Ll : Addr) (H H' : Hp) : Prop := ∀ b o, b ≠ S → b ≠ Pp → b ≠ Ll → H b = some o → H' b = some o
theorem Fr3.of {S Pp Ll : Addr} {H H' : Hp} (s : Same H H') : Fr3 S Pp Ll H H' := fun b o _ _ _ e => s b o e
theorem Fr3.of2 {S Pp Ll : Addr} {H H' : Hp} (s : Fr S Pp H H') : Fr3 S Pp Ll H H' := fun b o h1 h2 _ e => s b o h1 h2 e
theorem Fr3.trans {S Pp Ll : Addr} {H H1 H2 : Hp} (a : Fr3 S Pp Ll H H1) (b : Fr3 S Pp Ll H1 H2) : Fr3 S Pp Ll H H2 := fun c o h1 h2 h3 e => b c o h1 h2 h3 (a c o h1 h2 h3 e)
theorem Fr3.nl {CD C : Addr} {H H' : Hp} {d S Pp Ll : Addr} {ts : List Stn} {ps : List Pipe} {lv : List V} (f : Fr3 S Pp Ll H H') (h : DrA CD C H d S Pp ts ps) (hL : H Ll = some (.lst lv)) : NL H H' := fun b o n e => by
  obtain ⟨_, ⟨vs, h1, p1⟩, ⟨ws, h2, p2⟩, ne⟩ := h
  exact f b o (fun z => by rw [z, h1] at e; exact n _ (Option.some.inj e).symm) (fun z => by rw [z, h2] at e; exact n _ (Option.some.inj e).symm) (fun z => by rw [z, hL] at e; exact n _ (Option.some.inj e).symm) e
def spPart (CD C : Addr) (n : Nat) : Sp := fun vs H Q _ => ∃ (d S Pp Ll : Addr) (v : V) (t : Tm) (ts : List Stn) (ps : List Pipe) (lv : List V) (ls : List Ln), vs = [.ref d, v, .ref Ll] ∧ DrA CD C H d S Pp ts ps ∧ TA H v t ∧ t.nodes ≤ n ∧ t.nodes ≤ 40 ∧ H Ll = some (.lst lv) ∧ Paired (LnA H) lv ls ∧ Ll ≠ S ∧ Ll ≠ Pp ∧ outerN t ≤ ls.length ∧ ts.length + t.nodes ≤ 400 + outerN t ∧ ps.length ≤ 2 * ts.length ∧
  ∀ H' v' lv', Fr3 S Pp Ll H H' → DrA CD C H' d S Pp (partS t ls (ts, ps)).2.2.1 (partS t ls (ts, ps)).2.2.2 → LnA H' v' (partS t ls (ts, ps)).1 → H' Ll = some (.lst lv') → Paired (LnA H') lv' (partS t ls (ts, ps)).2.1 → Q v' H'
def spWhole (CD C : Addr) (n : Nat) : Sp := fun vs H Q _ => ∃ (d S Pp : Addr) (v x : V) (t : Tm) (l : Ln) (ts : List Stn) (ps : List Pipe), vs = [.ref d, v, x] ∧ DrA CD C H d S Pp ts ps ∧ TA H v t ∧ t.nodes ≤ n ∧ t.nodes ≤ 40 ∧ LnA H x l ∧ ts.length + t.nodes ≤ 401 ∧ ps.length ≤ 2 * ts.length ∧
  ∀ H' v', Fr S Pp H H' → DrA CD C H' d S Pp (wholeS t l (ts, ps)).2.1 (wholeS t l (ts, ps)).2.2 → LnA H' v' (wholeS t l (ts, ps)).1 → Q v' H'
theorem lkC (S Pp : Addr) : (dflds S Pp).lookup ("copies" : Str) = none := rfl
theorem lkPa (S Pp : Addr) : (dflds S Pp).lookup ("part" : Str) = none := rfl
theorem lkW (S Pp : Addr) : (dflds S Pp).lookup ("whole" : Str) = none := rfl
theorem lkM (S Pp : Addr) : (dflds S Pp).lookup ("made" : Str) = none := rfl
theorem seq0 (n : Nat) : seqIndex? 0 (n + 1) = some 0 := by
  unfold seqIndex?
  simp
section
variable {P : Program} {w : World} {K : PySem.W.Frag} {mg : Str → Option Value} {base : Heap} {aS a1 a2 aL aT : Addr} {f g : Addr} {fd gd : FuncData} {C CD : Addr}
abbrev s_Draft_whole : Stmt := inClass (top 107) 3
abbrev N_Draft_whole : List Str := ["self", "term", "line"]
theorem sc_Draft_whole : FnScope N_Draft_whole ["self", "term", "line"] (defScope s_Draft_whole) := ⟨rfl, rfl, rfl, by decide +kernel, rfl, by decide +kernel, by decide +kernel⟩
theorem step_whole {n : Nat} (F : Fun K "whole" "Draft.whole" s_Draft_whole f fd) (m_Draft_copies : C8.Met P w K mg base 8 CD "copies" (spCopies CD C) []) (c_outer_ins : C8.Cal P w K mg base (n + 1) "outer_ins" (spOuter n) []) (m_Draft_part : C8.Met P w K mg base (2 * n + 10) CD "part" (spPart CD C n) []) : FnOk P w K mg base CX0 (2 * n + 11) f fd ["self", "term", "line"] (spWhole CD C n) := by
  refine F.ok sc_Draft_whole (fun vs H Q E h => ?_) (fun cdv A outer s H vs Q E hr h => ?_)
  · obtain ⟨d, S, Pp, v, x, t, l, ts, ps, rfl, _⟩ := h
    rfl
  obtain ⟨d, S, Pp, v, x, t, l, ts, ps, rfl, dr, ta, tn, t40, hx, m1, m2, q⟩ := h
  refine ⟨_, (pss_one (ps_ret (C8.pe_mt m_Draft_part hr (by omega) (pv 0) (pa_cons (pv 1) (pa_cons (C8.pe_mt m_Draft_copies hr (by omega) (pv 0) (pa_cons (pv 2) (pa_cons (C8.pe_c c_outer_ins hr (by omega) rfl (pa_cons (pv 1) pa_nil)) pa_nil))) pa_nil))))), ?_⟩
  obtain ⟨dx, hd⟩ := dr.ob
  have op := outer_pos t
  have ol := outer_le t
  refine ⟨_, rfl, d, dx, _, rfl, hd, lkPa S Pp, _, rfl, _, rfl, d, dx, _, rfl, hd, lkC S Pp, _, rfl, _, rfl, v, t, rfl, ta, tn, t40, fun H1 s1 => ?_⟩
  have ek : V.int (outerN t : Int) = V.int ((outerN t - 1 + 1 : Nat) : Int) := by rw [Nat.sub_add_cancel op]
  obtain ⟨c1, c2, c3⟩ := copS_len (outerN t - 1) (ts, ps) l
  simp only at c1 c2
  refine ⟨d, S, Pp, x, l, outerN t - 1, ts, ps, by rw [← ek]; rfl, dr.same s1, hx.keep (Tups.of s1), by omega, by omega, fun H2 p lv f2 hp hp2 pl dr2 => ?_⟩
  have nl2 : NL H1 H2 := f2.nl (dr.same s1)
  obtain ⟨np1, np2⟩ : p ≠ S ∧ p ≠ Pp := (dr.same s1).neS hp
  refine ⟨d, S, Pp, p, v, t, _, _, lv, copL (outerN t - 1) (ts, ps) l, rfl, dr2, (ta.keep (Tups.of s1)).keep nl2.tups, tn, t40, hp2, pl, np1, np2, ?_, ?_, ?_, fun H3 v3 lv3 f3 dr3 hv3 _ _ => ?_⟩
  · simp only [copL, List.length_append, c3, List.length_cons, List.length_nil]
    omega
  · rw [c1]
    omega
  · rw [c1]
    omega
  · refine q _ _ (fun b o h1 h2 e => ?_) dr3 hv3
    have e1 := s1 _ _ e
    exact f3 b o h1 h2 (ne_of_none e1 hp) (f2 b o h1 h2 e1)
abbrev s_Draft_part : Stmt := inClass (top 107) 4
abbrev N_Draft_part : List Str := ["self", "term", "lines", "read", "part"]
theorem sc_Draft_part : FnScope N_Draft_part ["self", "term", "lines"] (defScope s_Draft_part) := ⟨rfl, rfl, rfl, by decide +kernel, rfl, by decide +kernel, by decide +kernel⟩
theorem step_part {n : Nat} (F : Fun K "part" "Draft.part" s_Draft_part f fd) (T : Txt K mg aS a1 a2) (c_parts_of : C8.Cal P w K mg base 1 "parts_of" spPartsOf []) (c_station_of : C8.Cal P w K mg base 9 "station_of" (spStOf C) []) (m_Draft_add : C8.Met P w K mg base 1 CD "add" (spAdd CD C) []) (m_Draft_part : C8.Met P w K mg base (2 * n + 10) CD "part" (spPart CD C n) []) (m_Draft_whole : C8.Met P w K mg base (2 * n + 11) CD "whole" (spWhole CD C n) []) : FnOk P w K mg base CX0 (2 * n + 12) f fd ["self", "term", "lines"] (spPart CD C (n + 1)) := by
  refine F.ok sc_Draft_part (fun vs H Q E h => ?_) (fun cdv A outer s H vs Q E hr h => ?_)
  · obtain ⟨d, S, Pp, Ll, v, t, ts, ps, lv, ls, rfl, _⟩ := h
    rfl
  obtain ⟨d, S, Pp, Ll, v, t, ts, ps, lv, ls, rfl, dr, ta, tn, t40, hL, pl, nLS, nLP, ho, m1, m2, q⟩ := h
  refine ⟨_, (pss_cons (ps_if (pt_cmpR (kEqD K rfl hr.units) (pv 1) (C8.pe_gc rfl T.g_IN) (nomark _))
        (pss_one (ps_ret (kBm K rfl PySem.F.plainAttrs_list PySem.F.slot_list_pop PySem.F.type_list_pop mt_popAt (pv 2) (pa_cons pe_int pa_nil))))
        pss_nil)
        (pss_cons (ps_if (pt_cmpR op_eq (pe_ix (kIxT K rfl) (pv 1) pe_int (fun _ _ => rfl)) (C8.pe_gc rfl T.g_THEN) (nomark _))
        (pss_one (ps_ret (C8.pe_mt m_Draft_whole hr (by omega) (pv 0) (pa_cons (pe_ix (kIxT K rfl) (pv 1) pe_int (fun _ _ => rfl)) (pa_cons (C8.pe_mt m_Draft_part hr (by omega) (pv 0) (pa_cons (pe_ix (kIxT K rfl) (pv 1) pe_int (fun _ _ => rfl)) (pa_cons (pv 2) pa_nil))) pa_nil)))))
        pss_nil)
        (pss_cons (ps_setLc (i := 3) (own := [("part", 4)]) rfl sc_Draft_part.nd rfl rfl (sw_true rfl rfl rfl (by decide +kernel)) (kTup K rfl (C8.pe_c c_parts_of hr (by omega) rfl (pa_cons (pv 1) pa_nil))) (blkOk_by (N := N_Draft_part) (sc := defScope s_Draft_part) (by decide +kernel)) (fun _ _ _ _ _ => (pg_name (i := 4) sc_Draft_part.nd rfl (Or.inl rfl))) (fun _ _ _ _ _ => pts_nil) (fun _ _ _ _ _ => (C8.pe_mt m_Draft_part hr (by omega) (pv 0) (pa_cons (pv 4) (pa_cons (pv 2) pa_nil)))))
        (pss_one (ps_ret (pe_tup (pa_cons (C8.pe_mt m_Draft_add hr (by omega) (pv 0) (pa_cons (C8.pe_c c_station_of hr (by omega) rfl (pa_cons (pv 1) pa_nil)) (pa_cons (pv 3) pa_nil))) (pa_cons pe_int pa_nil)))))))), ?_⟩
  obtain ⟨dx, hd⟩ := dr.ob
  refine ⟨_, rfl, _, _, ta.dp, .str _, shp_tm t40, shp_in, _, rfl, ?_⟩
  rw [eqv_in]
  cases hin : t.isIn with
  | true =>
    have e : t = .inn := by cases t <;> first | rfl | cases hin
    subst e
    refine iteT ⟨_, rfl, .inl ⟨rfl, _, SqL.of hL⟩, ?_⟩
    cases pl with
    | nil => simp [outerN] at ho
    | @cons x1 l1 xr lr r1 rr =>
      refine ⟨Ll, _, 0, 0, x1, rfl, rfl, hL, by decide, by decide, seq0 _, rfl, ?_⟩
      have nl := NL.at (o := .lst (x1 :: xr).tail) hL
      exact q _ _ xr (fun b o _ _ h3 e => by rw [upd_ne h3]; exact e) (dr.keep nl (fun xs e => by rw [upd_ne (Ne.symm nLS)]; exact e) (fun xs e => by rw [upd_ne (Ne.symm nLP)]; exact e)) (r1.keep nl.tups) upd_same (lna_all nl.tups rr)
  | false =>
    refine iteF ?_
    obtain ⟨a, us, rfl, ha, pu⟩ := ta.node hin
    refine ⟨_, rfl, _, _, _, _, rfl, rfl, SqT.of ha, at0, rfl, _, rfl, ?_⟩
    rw [word_then]
    cases hth : t.isThn with
    | true =>
      cases t with
      | thn t u =>
        refine iteT ?_
        obtain ⟨a', x, y, ea, h, r, r'⟩ := ta
        cases ea
        have hnd : (Tm.thn t u).nodes = t.nodes + u.nodes + 1 := rfl
        have hod : outerN (Tm.thn t u) = outerN t := rfl
        have up := u.nodes_pos
        rw [hnd] at tn t40 m1
        rw [hod] at ho m1
        refine ⟨_, rfl, d, dx, _, rfl, hd, lkW S Pp, _, rfl, _, _, _, _, rfl, rfl, SqT.of h, rfl, ?_⟩
        refine ⟨_, rfl, d, dx, _, rfl, hd, lkPa S Pp, _, rfl, _, _, _, _, rfl, rfl, SqT.of h, rfl, _, rfl, ?_⟩
        obtain ⟨⟨p1, p2, p3⟩, p4⟩ := partS_len t ls (ts, ps)
        simp only at p1 p2 p3
        refine ⟨d, S, Pp, Ll, x, t, ts, ps, lv, ls, rfl, dr, r, by omega, by omega, hL, pl, nLS, nLP, ho, by omega, m2, fun H1 v1 lv1 f1 dr1 hv1 hL1 pl1 => ?_⟩
        have nl1 := f1.nl dr hL
        refine ⟨d, S, Pp, y, v1, u, _, _, _, rfl, dr1, r'.keep nl1.tups, by omega, by omega, hv1, by omega, by omega, fun H2 v2 f2 dr2 hv2 => ?_⟩
        have nl2 := f2.nl dr1
        rw [partS_thn] at q
        exact q _ _ lv1 (f1.trans (Fr3.of2 f2)) dr2 hv2 (f2 _ _ nLS nLP hL1) (lna_all nl2.tups pl1)
      | _ => cases hth
    | false =>
      refine iteF ?_
      have hf := parts_few t
      have hsO := outer_parts hin hth
      have hsN := sumN_parts t
      refine ⟨_, rfl, .ref a, t, rfl, ta, Nat.le_trans t.dep_le (by omega), fun H1 p ws s1 hp1 pr1 => ?_⟩
      have hwl := paired_len pr1
      have dr1 := dr.same s1
      have hL1 := s1 _ _ hL
      have pl1 := lna_all (Tups.of s1) pl
      refine ⟨_, rfl, ⟨_, SqT.of hp1⟩, fun D hD => ?_⟩
      obtain ⟨nD1, nD2⟩ := dr1.neS hD
      have nD3 : D ≠ Ll := fun z => by rw [z, hL1] at hD; cases hD
      have hpS : p ≠ S := fun z => by obtain ⟨_, ⟨_, h1, _⟩, _, _⟩ := dr1; rw [z, h1] at hp1; cases hp1
      have hpP : p ≠ Pp := fun z => by obtain ⟨_, _, ⟨_, h1, _⟩, _⟩ := dr1; rw [z, h1] at hp1; cases hp1
      have hpL : p ≠ Ll := fun z => by rw [z, hL1] at hp1; cases hp1
      refine lc_it walk_tup (fun i H' => ∃ (rv lv' : List V), Fr3 S Pp Ll H1 H' ∧ H' D = some (.lst rv) ∧ Paired (LnA H') rv (foldP (t.parts.take i) ls (ts, ps)).1 ∧ H' Ll = some (.lst lv') ∧ Paired (LnA H') lv' (foldP (t.parts.take i) ls (ts, ps)).2.1 ∧ DrA CD C H' d S Pp (foldP (t.parts.take i) ls (ts, ps)).2.2.1 (foldP (t.parts.take i) ls (ts, ps)).2.2.2) ?h0 (fun i H' _ ⟨_, _, z, _⟩ => SqT.of (z _ _ hpS hpP hpL hp1)) ?hs ?hd
      case h0 =>
        have kD := same_new hD (.lst [])
        exact ⟨[], lv, Fr3.of kD, upd_same, .nil, kD _ _ hL1, lna_all (Tups.of kD) pl1, dr1.same kD⟩
      case hs =>
        rintro i x H3 H4 hi ⟨rv, lv', f3, hd3, pr3, hL3, pl3, dr3⟩ ⟨rfl, hx⟩
        obtain ⟨u, hu, hxu⟩ := paired_get pr1 hx
        have hun := parts_nodes (List.mem_of_getElem? hu)
        have hil := lt_len hu
        obtain ⟨dx3, hdx3⟩ := dr3.ob
        have hlr := paired_len pr3
        have hll := paired_len pl3
        obtain ⟨⟨l1, l2, l3⟩, l4, l5⟩ := foldP_len ls (ts, ps) (t.parts.take i)
        simp only at l1 l2 l3
        have tk : t.parts.take (i + 1) = t.parts.take i ++ [u] := by rw [List.take_succ, hu]; rfl
        have spl : t.parts.take (i + 1) ++ t.parts.drop (i + 1) = t.parts := List.take_append_drop _ _
        have sN : sumN (t.parts.take i) + u.nodes + sumN (t.parts.drop (i + 1)) = sumN t.parts := by
          rw [← congrArg sumN spl, sumN_app, tk, sumN_app]
          simp [sumN]
        have sO : sumO (t.parts.take i) + outerN u + sumO (t.parts.drop (i + 1)) = sumO t.parts := by
          rw [← congrArg sumO spl, sumO_app, tk, sumO_app]
          simp [sumO]
        have sL := sumO_le (t.parts.drop (i + 1))
        refine ⟨rfl, tyI ⟨_, rfl, d, dx3, _, rfl, hdx3, lkPa S Pp, _, rfl, _, rfl, ?_⟩⟩
        refine ⟨d, S, Pp, Ll, x, u, _, _, lv', _, rfl, dr3, hxu.keep (f3.nl dr1 hL1).tups, by omega, by omega, hL3, pl3, nLS, nLP, ?_, by omega, by omega, fun H5 v5 lv5 f5 dr5 hv5 hL5 pl5 => ?_⟩
        · rw [l4, List.length_drop]
          omega
        have hd5 := f5 _ _ nD1 nD2 nD3 hd3
        have nl5 := f5.nl dr3 hL3
        have nl6 := NL.at (o := .lst (rv ++ [v5])) hd5
        refine ⟨_, hd5, ?_, rv ++ [v5], lv5, ?_, upd_same, ?_, ?_, ?_, ?_⟩
        · rw [l5, List.length_take] at hlr
          exact Nat.lt_of_lt_of_le (show rv.length < 100000 by omega) (by decide)
        · intro b o h1 h2 h3 e
          rw [upd_ne (ne_of_none e hD)]
          exact f5 b o h1 h2 h3 (f3 b o h1 h2 h3 e)
        · rw [tk, foldP_snoc]
          exact paired_app (lna_all (nl5.trans nl6).tups pr3) (.cons (hv5.keep nl6.tups) .nil)
        · rw [upd_ne (Ne.symm nD3)]
          exact hL5
        · rw [tk, foldP_snoc]
          exact lna_all nl6.tups pl5
        · rw [tk, foldP_snoc]
          exact dr5.keep nl6 (fun xs e => by rw [upd_ne (Ne.symm nD1)]; exact e) (fun xs e => by rw [upd_ne (Ne.symm nD2)]; exact e)
      case hd =>
        rintro H3 ⟨rv, lv', f3, hd3, pr3, hL3, pl3, dr3⟩
        rw [hwl, List.take_of_length_le (Nat.le_refl _)] at pr3 pl3 dr3
        have nl3 := f3.nl dr1 hL1
        obtain ⟨⟨l1, l2, l3⟩, l4, l5⟩ := foldP_len ls (ts, ps) t.parts
        simp only at l1 l2 l3
        have hlr := paired_len pr3
        obtain ⟨dx3, hdx3⟩ := dr3.ob
        refine ⟨_, rfl, d, dx3, _, rfl, hdx3, lkA S Pp, _, rfl, .ref a, t, rfl, (ta.keep (Tups.of s1)).keep nl3.tups, hin, hth, fun H4 v4 s4 st4 => ?_⟩
        have dr4 := dr3.same s4
        refine ⟨_, rfl, d, S, Pp, D, v4, stOf t, _, _, rv, _, rfl, dr4, st4, s4 _ _ hd3, lna_all (Tups.of s4) pr3, nD1, nD2, by omega, by omega, by omega, fun H5 f5 dr5 => ?_⟩
        refine ⟨sz rfl, fun p5 hp5 => ?_⟩
        have k6 := same_new hp5 (.tup [.int (foldP t.parts ls (ts, ps)).2.2.1.length, .int 0])
        have fr5 : Fr S Pp H4 H5 := f5
        have nl5 := fr5.nl dr4
        rw [partS_fold hin hth] at q
        refine q _ _ lv' (((Fr3.of s1).trans f3).trans (((Fr3.of s4).trans (Fr3.of2 fr5)).trans (Fr3.of k6))) (dr5.same k6) ⟨p5, rfl, upd_same⟩ (k6 _ _ (f5 _ _ nLS nLP (s4 _ _ hL3))) (lna_all (((Tups.of s4).trans nl5.tups).trans (Tups.of k6)) pl3)
theorem ok_parts (F : Fun K "part" "Draft.part" s_Draft_part f fd) (G : Fun K "whole" "Draft.whole" s_Draft_whole g gd) (cl : Cls K CD) (mF : Meth K CD "part" f) (mG : Meth K CD "whole" g) (bF : Binds K fd ["self", "term", "lines"] []) (bG : Binds K gd ["self", "term", "line"] []) (T : Txt K mg aS a1 a2) (c_parts_of : C8.Cal P w K mg base 1 "parts_of" spPartsOf []) (c_station_of : C8.Cal P w K mg base 9 "station_of" (spStOf C) []) (m_Draft_add : C8.Met P w K mg base 1 CD "add" (spAdd CD C) []) (m_Draft_copies : C8.Met P w K mg base 8 CD "copies" (spCopies CD C) []) (c_outer_ins : ∀ n, C8.Cal P w K mg base (n + 1) "outer_ins" (spOuter n) []) : ∀ n, C8.Met P w K mg base (2 * n + 10) CD "part" (spPart CD C n) []
  | 0 => ⟨f, fd, _, [], cl, mF, ⟨by rintro vs H Q E ⟨d, S, Pp, Ll, v, t, ts, ps, lv, ls, rfl, _⟩; rfl, by
      rintro A outer s H args us vs Q E hr e0 hb r ⟨d, S, Pp, Ll, v, t, ts, ps, lv, ls, rfl, _, _, hn, _⟩
      have := t.nodes_pos
      omega⟩, bF, .nil⟩
  | n + 1 => ⟨f, fd, _, [], cl, mF, step_part F T c_parts_of c_station_of m_Draft_add (ok_parts F G cl mF mG bF bG T c_parts_of c_station_of m_Draft_add m_Draft_copies c_outer_ins n) ⟨g, gd, _, [], cl, mG, step_whole G m_Draft_copies (c_outer_ins n) (ok_parts F G cl mF mG bF bG T c_parts_of c_station_of m_Draft_add m_Draft_copies c_outer_ins n), bG, .nil⟩, bF, .nil⟩
end
end FY


set_option Elab.async false
set_option linter.all false
set_option maxRecDepth 100000
set_option maxHeartbeats 4000000
/-! dicts whose keys are tuples: comprehensions, update; enumerate of a tuple; a tuple taken no times or once -/
namespace FYR
open PySem PySem.Spec PyProof.Rows L2
/-! ### dict comprehensions -/
section
variable {X : Cx} {pins : List (Addr × Obj)} {σ : L2.St} {H : Hp} {s : Shared}
theorem dT_set {A : Around} {E : Value → Shared → Prop} {D b : Addr} {kvs : List (List Key × V)} {k : List Key} {z : V} {r : Value} {G : Unit → Shared → Prop} (hu : A.units < cLine) (I : Inv X pins σ H s)
    (hD : H D = some (.dT kvs)) (hb : H b = some (.tup (k.map kV))) (hl : kvs.length < sizeLine) (rz : RelV z r) (h : ∀ s', Inv X pins σ (upd H D (.dT (putK kvs k z))) s' → G () s') :
    wpAny (model X.prog X.w) A (dictSet D (.ref b) r) G E s := by
  obtain ⟨n1, nD, xs, rel, raw⟩ := dt_of I.hok hD
  have n2 := Paired.length rel
  have n3 := length_putK kvs k z
  refine wpAny_dictSet_heap (hsz := by omega) (show (tupleKind (mixKind X.prog X.w)).room A from hu) (key_of I.hok hb) raw fun h2 raw2 same => h _ ?_
  obtain ⟨q, es, ep, g1, g2, g3, g4, _, g5⟩ := raw2
  have keepT : ∀ c ys, H c = some (.tup ys) → upd H D (.dT (putK kvs k z)) c = some (.tup ys) := fun c ys ec => by
    rw [upd_ne (fun y => by rw [y, hD] at ec; cases ec)]
    exact ec
  exact d_write I (by rw [hD]; trivial) same ⟨q, g1⟩ ⟨by omega, nD, _, (rel.put k hb rz).keeps keepT, q, es, ep, g1, g2, g3, g4, g5⟩
end
/-- the reading: D is the new dict -/
def tDcT (wi : TI) (g : TG) (tt : TT) (tk tv : TE) (own : List Nat) : TE := fun σ H Q => wi σ H fun J H1 => ∀ D, H1 D = none →
  ∃ W : Nat → Nat → Hp → Prop, (∃ m, W 0 m (upd H1 D (.dT []))) ∧ ∀ i m H2, W i m H2 →
    (J.stop i H2 ∧ Q (.ref D) H2) ∨ (J.go i H2 ∧ ∃ Nx : Hp → Prop, (∀ H', Nx H' → ∃ m', m' < m ∧ W (i + 1) m' H') ∧
      ∀ x H', J.yld i H2 x H' → g x (wipe σ own) H' fun σ2 H3 => wipe σ2 own = wipe σ own ∧ tt σ2 H3 fun b H4 =>
        if b = true then tk σ2 H4 fun y H5 => tv σ2 H5 fun z H6 => ∃ kvs k a, y = .ref a ∧ H6 a = some (.tup (k.map kV)) ∧ H6 D = some (.dT kvs) ∧ kvs.length < sizeLine ∧ Nx (upd H6 D (.dT (putK kvs k z))) else Nx H4)
section
variable {X : Cx}
abbrev cvs (X : Cx) (scope : Scope) (n : Addr) : Env := compEnvC scope (cellsFrom (n + 1) scope.names (cloFrom X.env.cells scope.names [])) n X.env
theorem dcT_run {pins : List (Addr × Obj)} {s : Shared} {σ : L2.St} {H : Hp} {Q : VK} {kx vx tg iter : Expr} {ifs : List Expr} {scope : Scope} {own : List (Str × Nat)} {p1 p2 : Pos} {wi : TI} {g : TG} {tt : TT} {tk tv : TE} {sto : Option (Value → Sem Unit)} {Z : Value → Shared → Prop}
    (calm : X.calm = true) (nd : X.N.Nodup) (hu : X.A.units < cLine) (I : Inv X pins σ H s) (pi : PI X tg iter wi) (bo : BlkOk X.N X.env.scope scope own)
    (pG : ∀ (s' : Shared) (H' : Hp) (c : Addr) (l : List (Str × Addr)) (fs : List Addr), PG (X.blk s' H' scope (compEnvC scope l c X.env) fs) tg g)
    (pT : ∀ (s' : Shared) (H' : Hp) (c : Addr) (l : List (Str × Addr)) (fs : List Addr), PTs (X.blk s' H' scope (compEnvC scope l c X.env) fs) ifs tt)
    (pK : ∀ (s' : Shared) (H' : Hp) (c : Addr) (l : List (Str × Addr)) (fs : List Addr), PE (X.blk s' H' scope (compEnvC scope l c X.env) fs) kx tk)
    (pV : ∀ (s' : Shared) (H' : Hp) (c : Addr) (l : List (Str × Addr)) (fs : List Addr), PE (X.blk s' H' scope (compEnvC scope l c X.env) fs) vx tv)
    (nf : ∀ y, foldedSetIterable iter X.env y = pure y) (rd : tDcT wi g tt tk tv (own.map (·.2)) σ H Q)
    (last : ∀ D c s' m H', Inv X pins σ H' s' → Q (.ref D) H' → s'.heap.Ns c m → FpOk X pins H' c → compPost (model X.prog X.w) X.A X.xe sto Z (.ref D) c (.ok .next) s') :
    wpAny (model X.prog X.w) X.A (comprehension (.DictComp kx vx [⟨tg, iter, ifs, 0⟩] scope p1) scope X.env p2 newDict false (eval iter X.env) sto) Z X.xe s := by
  have clo : ∀ y ∈ scope.names, y.2 = .free → ∃ c, X.env.cells.lookup y.1 = some c := fun y my e => (bo.free y my e).elim (fun z => I.ok.has _ (.inl z)) fun z => I.ok.has _ (.inr z)
  refine wpAny_comprehension_free (use := sto) rfl nf (closure_ok clo) bo.kind (fun y my e => (bo.uniq y my).trans (by rw [e]))
    (thn (pi.run pins s σ H _ I rd) fun _ _ hx => thn hx fun _ sA hA => ?_)
  obtain ⟨it, fp, tn, J, HA, rfl, IA, TR, tA, fA, rA⟩ := hA
  refine wpAny_newObj_type (newEnv_comp ?_)
  obtain ⟨D, eD⟩ : ∃ D, D = sA.heap.objs.size := ⟨_, rfl⟩
  have freeD : HA D = none := by rw [eD]; exact IA.hok.fresh (Nat.le_refl _)
  obtain ⟨W, ⟨m0, w0⟩, steps⟩ := rA D freeD
  obtain ⟨sB, eB⟩ : ∃ sB : Shared, sB = { sA with heap := sA.heap.push { cls := .type "dict", data := .dict #[] } } := ⟨_, rfl⟩
  have hB : sB.heap = sA.heap.push { cls := .type "dict", data := .dict #[] } := by rw [eB]
  obtain ⟨HB, eHB⟩ : ∃ HB, HB = upd HA D (.dT []) := ⟨_, rfl⟩
  have IB : Inv X pins σ HB sB := by
    rw [eB, eHB]
    refine IA.laid (t' := sA.toks) (fun _ _ e => Heap.get?_push_of_some _ e) (Nat.le_of_eq eD.symm) ?_
    rw [eD]
    exact dt_empty sA.heap IA.big
  have lowA : ∀ b ∈ fp, b < sA.heap.objs.size := fun b mb => let ⟨o, e, _⟩ := TR.obj _ _ tA b mb; Heap.lt_size e
  have fB : ∀ b ∈ fp, FpOk X pins HB b ∧ b < sB.heap.objs.size := fun b mb => by
    have lt := lowA b mb
    refine ⟨⟨?_, (fA b mb).2⟩, ?_⟩
    · rw [eHB, upd_ne (fun z => by rw [z, eD] at lt; exact Nat.lt_irrefl _ lt)]
      exact (fA b mb).1
    · rw [hB, Heap.size_push]
      exact Nat.lt_succ_of_lt lt
  have tB : tn 0 sB.heap := TR.keep _ _ _ tA fun b _ o e => by rw [hB]; exact Heap.get?_push_of_some _ e
  have IC := block_start IB bo nd fB
  have eG := pG sB HB sB.heap.objs.size (cellsFrom (sB.heap.objs.size + 1) scope.names (cloFrom X.env.cells scope.names [])) fp
  have eT := pT sB HB sB.heap.objs.size (cellsFrom (sB.heap.objs.size + 1) scope.names (cloFrom X.env.cells scope.names [])) fp
  have eK := pK sB HB sB.heap.objs.size (cellsFrom (sB.heap.objs.size + 1) scope.names (cloFrom X.env.cells scope.names [])) fp
  have eV := pV sB HB sB.heap.objs.size (cellsFrom (sB.heap.objs.size + 1) scope.names (cloFrom X.env.cells scope.names [])) fp
  rw [← eD, ← eB]
  show codeAny _ _ (.compStart (.DictComp kx vx [⟨tg, iter, ifs, 0⟩] scope p1) 0 (.ref it) (.ref D) (cvs X scope sB.heap.objs.size)) (compPost (model X.prog X.w) X.A X.xe sto Z (.ref D) sB.heap.objs.size) { sB with heap := pushCells (sB.heap.push { cls := .type "dict", data := .dict #[] }) scope.names }
  have noneB : ∀ b ∈ fp, HB b = none := fun b mb => (fB b mb).1.1
  rw [← eHB] at w0
  obtain ⟨ce, ece⟩ : ∃ ce, ce = cvs X scope sB.heap.objs.size := ⟨_, rfl⟩
  have locC : ce.locals = sB.heap.objs.size := by rw [ece]; rfl
  change PG (X.blk sB HB scope (cvs X scope sB.heap.objs.size) fp) tg g at eG
  change PTs (X.blk sB HB scope (cvs X scope sB.heap.objs.size) fp) ifs tt at eT
  change PE (X.blk sB HB scope (cvs X scope sB.heap.objs.size) fp) kx tk at eK
  change PE (X.blk sB HB scope (cvs X scope sB.heap.objs.size) fp) vx tv at eV
  change Inv (X.blk sB HB scope (cvs X scope sB.heap.objs.size) fp) _ _ _ _ at IC
  rw [← ece] at eG eT eK eV IC ⊢
  clear ece
  obtain ⟨sC, eC⟩ : ∃ sC : Shared, sC = { sB with heap := pushCells (sB.heap.push { cls := .type "dict", data := .dict #[] }) scope.names } := ⟨_, rfl⟩
  rw [← eC] at IC ⊢
  have tC : tn 0 sC.heap := TR.keep _ _ _ tB fun b _ o e => by rw [eC]; exact pushCells_keeps _ _ _ _ (Heap.get?_push_of_some _ e)
  have okAt : ∀ {τ : L2.St} {HX : Hp} {sX : Shared}, Inv (X.blk sB HB scope ce fp) [] τ HX sX → (∀ b ∈ fp, HX b = none) → ∀ b ∈ fp, FpOk (X.blk sB HB scope ce fp) [] HX b := fun {τ HX sX} IX nX b mb =>
    ⟨nX b mb, (IX.ok.exf b mb).1, IX.ok.exfs b mb, .inl mb, fun x c e => (IX.ok.exf b mb).2 x c e, fun p hp => absurd (show p ∈ ([] : List (Addr × Obj)) ++ [] from hp) (by simp)⟩
  have run : codeAny (model X.prog X.w) X.A (.compLoop (.DictComp kx vx [⟨tg, iter, ifs, 0⟩] scope p1) 0 (.ref it) (.ref D) ce) (compPost (model X.prog X.w) X.A X.xe sto Z (.ref D) sB.heap.objs.size) sC := by
    refine compLoop_anyD (fun m sX => ∃ i HX, Inv (X.blk sB HB scope ce fp) [] (wipe σ (own.map (·.2))) HX sX ∧ tn i sX.heap ∧ (∀ b ∈ fp, HX b = none) ∧ W i m HX) ?_ m0 ⟨0, HB, IC, tC, noneB, w0⟩
    rintro m s1 ⟨i, H1, I1, t1, n1, w1⟩
    rcases steps i m H1 w1 with ⟨halt, qD⟩ | ⟨more, Nx, nxt, body⟩
    · refine thnF (TR.done (X.blk sB HB scope ce fp) rfl rfl rfl calm i [] s1 _ H1 (fun _ _ => False) I1 (okAt I1 n1) t1 halt) fun r s2 ⟨er, I2⟩ => ?_
      subst er
      have I3 : Inv X pins σ H1 s2 := IB.call' (ch := fp) I2.os I2.base I2.hok I2.bare fun b mb => ⟨(fB b mb).1.2.2.2.1, (fB b mb).1.2.1, (fB b mb).1.2.2.2.2.1, (fB b mb).1.2.2.2.2.2⟩
      have freeC : H1 ce.locals = none := I2.free
      obtain ⟨mm, nsC, _⟩ := I2.loc
      change s2.heap.Ns ce.locals mm at nsC
      rw [locC] at nsC freeC
      exact last D _ s2 mm H1 I3 qD nsC (IB.fpOk (Nat.le_refl _) freeC)
    · refine thnF (TR.item (X.blk sB HB scope ce fp) rfl rfl rfl calm i [] s1 _ H1 (fun _ _ => False) I1 (okAt I1 n1) t1 more) fun r s2 ⟨u, er, h2⟩ => ?_
      subst er
      refine thnF h2 fun _ s3 ⟨x, H3, I3, r3, y3, t3, n3⟩ => ?_
      refine thnF (eG.run _ s3 _ H3 x u _ (I3.pinned (okAt I3 n3) (TR.obj _ _ t3)) r3 (body x H3 y3)) fun _ s4 ⟨τ, H4, I4, wq, q4⟩ => ?_
      refine thnF (eT.run _ s4 τ H4 _ I4 q4) fun b s5 ⟨H5, I5, q5⟩ => ?_
      have close : ∀ {sX : Shared} {HX : Hp}, Inv (X.blk sB HB scope ce fp) ([] ++ pinsAt fp s3.heap) τ HX sX → Nx HX → ∃ m', m' < m ∧ ∃ j HY, Inv (X.blk sB HB scope ce fp) [] (wipe σ (own.map (·.2))) HY sX ∧ tn j sX.heap ∧ (∀ b ∈ fp, HY b = none) ∧ W j m' HY := fun {sX HX} IX nX => by
        obtain ⟨m', lt, wX⟩ := nxt HX nX
        have held : ∀ b ∈ fp, ∀ o, s3.heap.get? b = some o → sX.heap.get? b = some o ∧ HX b = none := fun b mb o e =>
          ⟨(IX.pin (b, o) (List.mem_append_right _ (List.mem_append_right _ (mem_pinsAt mb e)))).1, (IX.pin (b, o) (List.mem_append_right _ (List.mem_append_right _ (mem_pinsAt mb e)))).2.1⟩
        refine ⟨m', lt, i + 1, HX, (IX.unpinned (pins := [])).weak (by rw [← wq, wipe_length]) (fun j v e => ?_), TR.keep _ _ _ t3 fun b mb o e => (held b mb o e).1, fun b mb => ?_, wX⟩
        · exact (wipe_some (by rw [wq]; exact e)).1
        · exact let ⟨o, e, _⟩ := TR.obj _ _ t3 b mb; (held b mb o e).2
      cases b with
      | false =>
        simp only [Bool.false_eq_true, if_false] at q5 ⊢
        exact close I5 q5
      | true =>
        simp only [if_true] at q5 ⊢
        refine thnF (eK.run _ s5 τ H5 _ I5 q5) fun _ s6 ⟨yk, H6, I6, r6, q6⟩ => ?_
        refine thnF (eV.run _ s6 τ H6 _ I6 q6) fun _ s7 ⟨yv, H7, I7, r7, kvs, k, a, ek, ha, hD7, lt7, nx⟩ => ?_
        subst ek
        cases r6
        exact dT_set (X := X.blk sB HB scope ce fp) hu I7 hD7 ha lt7 r7 fun s8 I8 => close I8 nx
  exact codeAny_compStart_dict run (TR.self X.A 0 _ _ _ tC run)
theorem pe_dcT {kx vx tg iter : Expr} {ifs : List Expr} {scope : Scope} {own : List (Str × Nat)} {p1 : Pos} {wi : TI} {g : TG} {tt : TT} {tk tv : TE}
    (calm : X.calm = true) (nd : X.N.Nodup) (hu : X.A.units < cLine) (pi : PI X tg iter wi) (bo : BlkOk X.N X.env.scope scope own)
    (pG : ∀ (s' : Shared) (H' : Hp) (c : Addr) (l : List (Str × Addr)) (fs : List Addr), PG (X.blk s' H' scope (compEnvC scope l c X.env) fs) tg g)
    (pT : ∀ (s' : Shared) (H' : Hp) (c : Addr) (l : List (Str × Addr)) (fs : List Addr), PTs (X.blk s' H' scope (compEnvC scope l c X.env) fs) ifs tt)
    (pK : ∀ (s' : Shared) (H' : Hp) (c : Addr) (l : List (Str × Addr)) (fs : List Addr), PE (X.blk s' H' scope (compEnvC scope l c X.env) fs) kx tk)
    (pV : ∀ (s' : Shared) (H' : Hp) (c : Addr) (l : List (Str × Addr)) (fs : List Addr), PE (X.blk s' H' scope (compEnvC scope l c X.env) fs) vx tv)
    (nf : ∀ y, foldedSetIterable iter X.env y = pure y := by intro _; rfl) : PE X (.DictComp kx vx [⟨tg, iter, ifs, 0⟩] scope p1) (tDcT wi g tt tk tv (own.map (·.2))) :=
  ⟨fun pins s σ H Q I rd => by
    rw [arm_eval_DictComp]
    refine dcT_run calm nd hu I pi bo pG pT pK pV nf rd fun D c s' m H' I' q ns f => ⟨m, ns, fun h2 sb => ?_⟩
    obtain ⟨g0, g1, g2, g3, g4, g5⟩ := f
    exact ⟨.ref D, H', I'.turned (t' := s'.toks) (fun b o nb e => (sb.2 b nb).trans e) g0 g1 g3 g4 g5, rfl, q⟩⟩
end
end FYR

set_option Elab.async false
set_option linter.all false
set_option maxRecDepth 100000
set_option maxHeartbeats 4000000
/-! enumerate of a tuple; dict.update with tuples as keys; a tuple taken no times or once -/
namespace FYR
open PySem PySem.Spec PyProof.Rows L2
/-! ### enumerate(tuple) -/
theorem enumNew1 {v : Value} {o : Obj} {G : Heap → Prop} (B : Begins v o G) :
    Meets (Builtin.«enumerate.__new__» ⟨[.type "enumerate", v], []⟩) (fun _ R s => G s.heap ∧
      R (.ok (.ret (.ref (s.heap.push o).objs.size))) { s with heap := (s.heap.push o).push { cls := .type "enumerate", data := .fields #[.none, .bool false, .ref s.heap.objs.size, rawInt 0, .none, .none] } }) :=
  .of_wp fun prog w A R s hh => by
    obtain ⟨hp, g, d, tk, os⟩ := s
    obtain ⟨hG, hR⟩ := hh
    have hsub := sub_enumerate
    have qi : ∀ {A1 : Around} {E1 : Value → Shared → Prop} {Z : Value → Shared → Prop}, Z (.ref hp.objs.size) ⟨hp.push o, g, d, tk, os⟩ → wpAny (model prog w) A1 (pyIter v) Z E1 ⟨hp, g, d, tk, os⟩ := fun z => B.iter prog w _ _ ⟨hp, g, d, tk, os⟩ _ hG z
    wp_walk using qi
    refine wpAny_stack_any fun stk => wpAny_pure ?_
    split
    · rename_i c0 _ _ _ _ _
      cases (c0 == Value.type "enumerate") <;> (wp_walk using qi; exact ⟨_, rfl, hR⟩)
    · wp_walk using qi
      exact ⟨_, rfl, hR⟩
theorem enumCall1 {prog : Program} {w : World} {A : Around} {E : Value → Shared → Prop} {s : Shared} {v : Value} {o : Obj} {G : Heap → Prop} {Q : Value → Shared → Prop} (B : Begins v o G) (hG : G s.heap)
    (h : ∀ h', IsEnum h' (s.heap.objs.size + 1) s.heap.objs.size 0 .none → h'.get? s.heap.objs.size = some o → (∀ b o, s.heap.get? b = some o → h'.get? b = some o) → Q (.ref (s.heap.objs.size + 1)) { s with heap := h' }) :
    wpAny (model prog w) A (call (.type "enumerate") [v]) Q E s := by
  refine callType_new F.called_enumerate (by decide) (F.typeCall_enumerate_1 _) (F.newCall_enumerate_1 _) (fun ob => F.args_object_init_2 ob _) F.entry_enumerate_new (enumNew1 B) ⟨hG, ?_⟩
  have one : (s.heap.push o).objs.size = s.heap.objs.size + 1 := Heap.size_push ..
  show _ ∧ _
  rw [one]
  have isE : IsEnum ((s.heap.push o).push { cls := .type "enumerate", data := .fields #[.none, .bool false, .ref s.heap.objs.size, rawInt 0, .none, .none] }) (s.heap.objs.size + 1) s.heap.objs.size 0 .none := by
    have z := Heap.get?_push_size (s.heap.push o) (o := { cls := .type "enumerate", data := .fields #[.none, .bool false, .ref s.heap.objs.size, rawInt 0, .none, .none] }) rfl
    rw [one] at z
    exact z
  exact ⟨⟨_, isE, rfl⟩, h _ isE (Heap.get?_push_of_some _ (Heap.get?_push_size _ B.free)) fun b q x => Heap.get?_push_of_some _ (Heap.get?_push_of_some _ x)⟩
def IteT (K : PySem.W.Frag) (a : Addr) : It :=
  ⟨fun i H => ∃ xs x, SqT K H a xs ∧ xs[i]? = some x,
    fun i H v H' => ∃ T x, v = .ref T ∧ H T = none ∧ H' = upd H T (.tup [.int (i : Nat), x]) ∧ ∀ xs, SqT K H a xs → xs[i]? = some x,
    fun i H => ∃ xs, SqT K H a xs ∧ xs.length = i⟩
theorem turn_enumT {P : Program} {w : World} {K : PySem.W.Frag} {elts : List Expr} {kk : Nat} {tpos : Pos} (a e it : Addr) :
    Turn P w K (.Tuple elts kk tpos) (IteT K a) [e, it] e (fun i h => (∃ old, IsEnum h e it ((i : Nat) : Int) old) ∧ h.IsTupleIter it a i ∧ e ≠ it ∧ a ≠ it ∧ a ≠ e) where
  mem := by simp
  obj := fun i h st c hc => by
    obtain ⟨⟨old, he⟩, ⟨o, ho, _, hd⟩, _⟩ := st
    have e' : c = e ∨ c = it := by simpa using hc
    rcases e' with q | q
    · rw [q]; exact ⟨_, he, fun v q => nomatch q⟩
    · rw [q]; exact ⟨o, ho, fun v q => by rw [hd] at q; cases q⟩
  keep := fun i h h' st k => by
    obtain ⟨⟨old, he⟩, hit, n1, n2, n3⟩ := st
    exact ⟨⟨old, k e (by simp) _ he⟩, hit.at fun o q => k it (by simp) o q, n1, n2, n3⟩
  item := by
    intro X hP hw hK hc i pins s σ H E I hf st hg
    subst hP hw hK
    obtain ⟨⟨old, he⟩, hit, n1, n2, n3⟩ := st
    obtain ⟨xs, x, hq, hx⟩ := hg
    obtain ⟨its, rv, tp, hz⟩ := I.tuple hq
    obtain ⟨u, hu, ru⟩ := rv.get hx
    have hi : i < its.toArray.size := by
      have := (List.getElem?_eq_some_iff.mp hu).1
      simpa using this
    have W := WalksT.enumerateD (prog := X.prog) (w := X.w) (A := X.A) (Draws.tuple (show X.A.in1.handled = none from I.ok.hd hc) it a n2 its.toArray) e n1 (by simp [n1, Ne.symm n3]) (by simp)
    refine W.item i s _ _ hi ⟨⟨old, he⟩, hit, tp⟩ fun T vals h' tk hp hT ht mid hk => ?_
    obtain ⟨tt, y, hy, rfl⟩ := hp
    have ey : y = u := by
      have e1 : its[i]? = some y := by simpa using hy
      rw [hu] at e1
      exact (Option.some.inj e1).symm
    subst ey
    refine ⟨_, rfl, W.go elts kk tpos i T { s with heap := h', toks := tk } _ _ mid fun h'' st'' hk2 => ?_⟩
    obtain ⟨oT, eT, cT, nT, dT⟩ := ht
    have hT2 : h''.get? T = some oT := hk2 _ _ (W.apart _ _ _ mid) eT
    have new : ObjOk X.prog X.w (upd H T (.tup [.int (i : Nat), x])) h'' T (.tup [.int (i : Nat), x]) :=
      ⟨by show 2 ≤ sizeLine; decide, [_, _], .cons ⟨_, rfl⟩ (.cons ru .nil), ⟨_, hT2, cT, nT, dT⟩⟩
    have I1 : Inv X pins σ (upd H T (.tup [.int (i : Nat), x])) { s with heap := h'', toks := tk } :=
      I.turnedNew (t' := tk) (ch := [e, it]) (fun c o hb q => hk2 c o hb (hk c o hb q)) hf hT new
    refine ⟨.ref T, _, I1, rfl, ⟨T, x, rfl, I.hok.fresh hT, rfl, fun ys hys => ?_⟩, ⟨st''.1, st''.2.1, n1, n2, n3⟩, fun b hb => ?_⟩
    · obtain ⟨its2, rv2, tp2, _⟩ := I.tuple hys
      obtain ⟨o1, g1, _, m1, d1⟩ := tp
      obtain ⟨o2, g2, _, m2, d2⟩ := tp2
      rw [g1] at g2
      cases g2
      rw [d1] at d2
      have e3 : its = its2 := by
        have := (Data.seq.inj d2).1
        simpa using this
      subst e3
      rw [rv.inj rv2] at hx
      exact hx
    · have hlt : b < s.heap.objs.size := by
        have e' : b = e ∨ b = it := by simpa using hb
        rcases e' with q | q
        · rw [q]; exact Heap.lt_size he
        · rw [q]; obtain ⟨o, ho, _⟩ := hit; exact Heap.lt_size ho
      rw [upd_ne (Nat.ne_of_lt (Nat.lt_of_lt_of_le hlt hT))]
      exact (hf b hb).1
  done := by
    intro X hP hw hK hc i pins s σ H E I hf st hg
    subst hP hw hK
    obtain ⟨⟨old, he⟩, hit, n1, n2, n3⟩ := st
    obtain ⟨xs, hq, hl⟩ := hg
    obtain ⟨its, rv, tp, hz⟩ := I.tuple hq
    have W := WalksT.enumerateD (prog := X.prog) (w := X.w) (A := X.A) (Draws.tuple (show X.A.in1.handled = none from I.ok.hd hc) it a n2 its.toArray) e n1 (by simp [n1, Ne.symm n3]) (by simp)
    have hn : its.toArray.size = i := by
      rw [List.size_toArray, ← rv.length]
      exact hl
    subst hn
    exact W.done s _ _ ⟨⟨old, he⟩, hit, tp⟩ fun h' tk hk => ⟨rfl, I.turnedL (t' := tk) (ch := [e, it]) (fun c o hb q => hk c o hb q) hf⟩
  self := fun A i s Q E st h => wpAny_pyIter_enum st.1.choose_spec h
def iEnumT (K : PySem.W.Frag) (ta : L2.TA) : TI := fun σ H R => ta σ H fun vs H1 => ∃ a xs, vs = [.ref a] ∧ SqT K H1 a xs ∧ R (IteT K a) H1
theorem pi_enumT {X : Cx} (K : PySem.W.Frag) (hK : X.K = K) {e : Expr} {ta : L2.TA} {p pos tpos : Pos} {elts : List Expr} {kk : Nat} (hg : Gl X "enumerate") (hm : X.mg "enumerate" = none) (ha : PA X [e] ta) (hs : starEach [e] X.env = [(false, eval e X.env)] := by rfl) :
    PI X (.Tuple elts kk tpos) (.Call (.Name "enumerate" p) [e] [] pos) (iEnumT K ta) := by
  subst hK
  refine ⟨fun pins s σ H R I h => ?_⟩
  refine Call_ (ld_blt I hg hm boot_enumerate (PyProof.Rows.callWith_type1 (thn (ha.run pos pins s σ H _ I h) fun us s1 ⟨vs, H1, I1, r1, q1⟩ => ?_) hs rfl))
  obtain ⟨a, xs, rfl, hq, q⟩ := q1
  obtain ⟨u, rfl, ru⟩ := r1.one
  cases ru
  obtain ⟨its, rv, tp, hz⟩ := I1.tuple hq
  have hlt : a < s1.heap.objs.size := by
    obtain ⟨o, ho, _⟩ := id tp
    exact Heap.lt_size ho
  refine enumCall1 (begins_tuple a its.toArray) tp fun h' he hit hk => wpAny_pyIter_enum he ?_
  have I2 : Inv X pins σ H1 { s1 with heap := h' } := I1.kept (t' := s1.toks) hk
  refine ⟨s1.heap.objs.size + 1, [s1.heap.objs.size + 1, s1.heap.objs.size], _, _, H1, rfl, I2, turn_enumT a (s1.heap.objs.size + 1) s1.heap.objs.size, ⟨⟨.none, he⟩, ⟨_, hit, rfl, rfl⟩, Nat.succ_ne_self _, Nat.ne_of_lt hlt, Nat.ne_of_lt (Nat.lt_succ_of_lt hlt)⟩, fun c hc => ?_, q⟩
  have hle : s1.heap.objs.size ≤ c := by
    have e' : c = s1.heap.objs.size + 1 ∨ c = s1.heap.objs.size := by simpa using hc
    rcases e' with z | z
    · rw [z]; exact Nat.le_add_right _ _
    · rw [z]; exact Nat.le_refl _
  exact I1.fpOk hle (I1.hok.fresh hle)
theorem walk_enumT {K : PySem.W.Frag} {a : Addr} {xs : List V} : Walk (IteT K a) xs.length (fun H => SqT K H a xs) (YPair (fun i => some (.int (i : Nat))) (fun i => xs[i]?)) :=
  ⟨fun i H hi h => ⟨xs, xs[i], h, List.getElem?_eq_getElem hi⟩, fun H h => ⟨xs, h, rfl⟩, fun i H v H' hi h ⟨T, x, ev, hT, eH, hx⟩ => ⟨T, _, x, ev, hT, eH, rfl, hx xs h⟩⟩
/-! ### d.update(d2), tuples as keys -/
theorem KT.putAll {H : Hp} : ∀ {more : List (List Key × V)} {ys : List (List Key × Addr × Value)}, KT H more ys → ∀ {kvs : List (List Key × V)} {xs : List (List Key × Addr × Value)}, KT H kvs xs → KT H (more.foldl (fun acc p => putK acc p.1 p.2) kvs) (storedAllH xs ys)
  | _, _, .nil, _, _, r => r
  | _, _, .cons (a := p) (b := q) hq t, _, _, r => by
    obtain ⟨e1, e2, e3⟩ := hq
    have z := r.put p.1 (b := q.2.1) (y := p.2) (u := q.2.2) e2 e3
    have y := KT.putAll t z
    show KT H (List.foldl _ (putK _ p.1 p.2) _) (storedAllH (storedH _ q.1 q.2.1 q.2.2) _)
    rw [← e1]
    exact y
theorem putAll_len : ∀ (more kvs : List (List Key × V)), (more.foldl (fun acc p => putK acc p.1 p.2) kvs).length ≤ kvs.length + more.length
  | [], kvs => Nat.le_refl _
  | p :: r, kvs => by
    have h1 := putAll_len r (putK kvs p.1 p.2)
    have h2 := length_putK kvs p.1 p.2
    simp only [List.foldl_cons, List.length_cons]
    omega
def rUpdT : V → List V → Hp → VK → Prop := fun x vs H Q => ∃ (d o : Addr) (kvs more : List (List Key × V)), x = .ref d ∧ vs = [.ref o] ∧ d ≠ o ∧ H d = some (.dT kvs) ∧ H o = some (.dT more) ∧ (kvs ≠ [] ∨ more.length ≤ 1) ∧ kvs.length + more.length ≤ 1000 ∧
  Q .non (upd H d (.dT (more.foldl (fun acc p => putK acc p.1 p.2) kvs)))
theorem mt_updT {X : Cx} (hu : X.A.units + 1 < cLine) : MtR X "dict.update" rUpdT := by
  intro pins s σ H x vs v us Q I rx rv h
  obtain ⟨d, o, kvs, more, rfl, rfl, hne, hd, ho, hap, hl, q⟩ := h
  cases rx
  obtain ⟨u, rfl, ru⟩ := rv.one
  cases ru
  obtain ⟨z1, nd, xs, rel, raw⟩ := dt_of I.hok hd
  obtain ⟨z2, no, ys, rel2, raw2⟩ := dt_of I.hok ho
  have l1 := Paired.length rel
  have l2 := Paired.length rel2
  have hsl := sizeLine_eq
  have ap : xs ≠ [] ∨ ((∀ y ∈ ys, s.TypeIs (.ref y.2.1) "tuple") ∧ (ys.map fun y => (tupleKind (mixKind X.prog X.w)).hash y.1).Nodup) := by
    rcases hap with h | h
    · exact .inl fun e => h (List.eq_nil_of_length_eq_zero (by rw [l1, e]; rfl))
    · refine .inr ?_
      cases rel2 with
      | nil => exact ⟨(fun y hy => nomatch hy), List.nodup_nil⟩
      | cons hq t =>
        cases t with
        | nil =>
          refine ⟨fun y hy => ?_, by simp⟩
          rw [List.mem_singleton.mp hy]
          obtain ⟨_, its, _, oo, g1, g2, _⟩ := I.hok _ _ hq.2.1
          exact ⟨oo, g1, g2⟩
        | cons _ _ => simp at h
  refine call_update_dictH (knd := tupleKind (mixKind X.prog X.w)) (tupleKind_room_in1 hu) hne no raw raw2 ap (by omega) fun h' raw' _ same => ?_
  obtain ⟨oo, es, ep, g1, g2, g3, g4, _, g5⟩ := raw'
  have pl := putAll_len more kvs
  have keepT : ∀ c zs, H c = some (.tup zs) → upd H d (.dT (more.foldl (fun acc p => putK acc p.1 p.2) kvs)) c = some (.tup zs) := fun c zs ec => by
    rw [upd_ne (fun y => by rw [y, hd] at ec; cases ec)]
    exact ec
  exact ⟨.non, _, d_write (ob := .dT (more.foldl (fun acc p => putK acc p.1 p.2) kvs)) I (by rw [hd]; trivial) same ⟨oo, g1⟩ ⟨by omega, nd, _, (KT.putAll rel2 rel).keeps keepT, oo, es, ep, g1, g2, g3, g4, g5⟩, rfl, q⟩
end FYR

set_option Elab.async false
set_option linter.all false
set_option maxRecDepth 100000
set_option maxHeartbeats 4000000
namespace FY
open PySem L2 FYR
/-! ## data, how large it is -/
structure Nice (n w : Nat) (d : PyData) : Prop where
  lay : d.canLay0 = true
  dep : d.depth ≤ n
  sh : d.showable = true
  nd : d.hasDict = false
  wt : d.weight ≤ w
  si : d.intsShort 13 = true
theorem Nice.mono {n w n' w' : Nat} {d : PyData} (h : Nice n w d) (h1 : n ≤ n') (h2 : w ≤ w') : Nice n' w' d := ⟨h.lay, Nat.le_trans h.dep h1, h.sh, h.nd, Nat.le_trans h.wt h2, h.si⟩
theorem Nice.shp {n w : Nat} {d : PyData} (h : Nice n w d) (hn : n ≤ 64) : SeqAt.shaped d = true := by
  have := h.dep
  unfold SeqAt.shaped
  simp [h.lay]
  omega
theorem Nice.shown {n w : Nat} {d : PyData} (h : Nice n w d) (hn : n ≤ 64) (hw : w ≤ 1000000) : d.shown.length ≤ sizeLine := by
  have h1 := h.dep
  have h2 := h.wt
  refine Nat.le_trans (PyProof.Rows.shown_le13 ?_ h.si) (by decide)
  unfold PyData.layable0
  simp only [h.lay, Bool.true_and, Bool.and_eq_true, decide_eq_true_eq]
  exact ⟨by omega, by have : (2 : Nat) ^ 20 = 1048576 := by decide
                      omega⟩
def smallInt (k : Fin 101) : Bool := (PyData.int (k.val : Int)).showable && decide ((PyData.int (k.val : Int)).weight ≤ 7) && (PyData.int (k.val : Int)).intsShort 13
theorem smallInts : ∀ k : Fin 101, smallInt k = true := by decide +kernel
theorem nice_int {k : Nat} (h : k ≤ 100) : Nice 0 7 (.int (k : Int)) := by
  have z := smallInts ⟨k, by omega⟩
  unfold smallInt at z
  simp only [Bool.and_eq_true, decide_eq_true_eq] at z
  exact ⟨rfl, Nat.le_refl _, z.1.1, rfl, z.1.2, z.2⟩
theorem tx_ok (b : List Bool) : PyData.strOk (tx b) = true := by
  unfold PyData.strOk
  rw [Array.all_eq_true_iff_forall_mem]
  intro c hc
  simp only [tx, List.mem_toArray, List.mem_map] at hc
  obtain ⟨x, _, rfl⟩ := hc
  cases x <;> decide
theorem nice_str {b : List Bool} {m : Nat} (h : b.length ≤ m) : Nice 0 m (.str (tx b)) := ⟨tx_ok b, Nat.le_refl _, rfl, rfl, by show (tx b).cps.size ≤ m; rw [tx_size]; exact h, rfl⟩
theorem nice_rd (r : Rd) : Nice 0 2 (.str r.s) := by
  cases r <;> exact ⟨by decide +kernel, Nat.le_refl _, rfl, rfl, by decide +kernel, rfl⟩
structure NiceAll (n w m : Nat) (ds : List PyData) : Prop where
  lay : PyData.canLayAll0 ds = true
  dep : PyData.depthAll ds ≤ n
  sh : PyData.showableAll ds = true
  nd : PyData.hasDictAll ds = false
  wt : PyData.weightAll ds ≤ m * (w + 1)
  si : PyData.intsShortAll 13 ds = true
theorem nice_all {n w : Nat} : ∀ {ds : List PyData}, (∀ d ∈ ds, Nice n w d) → NiceAll n w ds.length ds
  | [], _ => ⟨rfl, Nat.zero_le _, rfl, rfl, Nat.zero_le _, rfl⟩
  | d :: r, h => by
    have a := h d (List.mem_cons_self ..)
    have b := nice_all fun x hx => h x (List.mem_cons_of_mem _ hx)
    refine ⟨by simp [PyData.canLayAll0, a.lay, b.lay], by rw [PyData.depthAll]; exact Nat.max_le.mpr ⟨a.dep, b.dep⟩, by simp [PyData.showableAll, a.sh, b.sh], by simp [PyData.hasDictAll, a.nd, b.nd], ?_, by simp [PyData.intsShortAll, a.si, b.si]⟩
    have := a.wt
    have := b.wt
    simp only [PyData.weightAll, List.length_cons, Nat.add_mul]
    omega
theorem nice_tup {n w m : Nat} {ds : List PyData} (h : ∀ d ∈ ds, Nice n w d) (hm : ds.length ≤ m) : Nice (n + 1) (m * (w + 1)) (.tuple ds) := by
  have a := nice_all h
  exact ⟨a.lay, Nat.succ_le_succ a.dep, a.sh, a.nd, Nat.le_trans a.wt (Nat.mul_le_mul_right _ hm), a.si⟩
theorem nice_lst {n w m : Nat} {ds : List PyData} (h : ∀ d ∈ ds, Nice n w d) (hm : ds.length ≤ m) : Nice (n + 1) (m * (w + 1)) (.list ds) := by
  have a := nice_all h
  exact ⟨a.lay, Nat.succ_le_succ a.dep, a.sh, a.nd, Nat.le_trans a.wt (Nat.mul_le_mul_right _ hm), a.si⟩
theorem dpall {α : Type} {K : PySem.W.Frag} {H : Hp} {R : V → α → Prop} {f : α → PyData} (h : ∀ v x, R v x → Dp K H v (f x)) : ∀ {vs : List V} {xs : List α}, Paired R vs xs → DpAll K H vs (xs.map f)
  | _, _, .nil => .nil
  | _, _, .cons r q => .cons (h _ _ r) (dpall h q)
theorem dpstr {K : PySem.W.Frag} {H : Hp} : ∀ bs : List (List Bool), DpAll K H (bs.map fun b => V.str (tx b)) (bs.map fun b => PyData.str (tx b))
  | [] => .nil
  | b :: r => .cons (.str _) (dpstr r)
/-! rows, standings, stations -/
def rwD (r : Rw) : PyData := .tuple [.tuple (r.gives.map fun b => .str (tx b)), .int r.goal, .int r.ticks]
def sgD (s : Sg) : PyData := .tuple [.str s.reads.s, .tuple (s.rows.map rwD)]
def toD (s : Sg) : PyData := .tuple [.str s.reads.s, .list (s.rows.map rwD)]
def stD (t : Stn) : PyData := .tuple [.int t.ins, .int t.outs, .list (t.stgs.map toD)]
theorem RwA.dp {K : PySem.W.Frag} {H : Hp} {v : V} {r : Rw} (h : RwA H v r) : Dp K H v (rwD r) := by
  obtain ⟨a, g, rfl, h1, h2⟩ := h
  exact .tup (SqT.of h1) (.cons (.tup (SqT.of h2) (dpstr _)) (.cons (.int _) (.cons (.int _) .nil)))
theorem SgA.dp {K : PySem.W.Frag} {H : Hp} {v : V} {s : Sg} (h : SgA H v s) : Dp K H v (sgD s) := by
  obtain ⟨a, q, ws, rfl, h1, h2, p⟩ := h
  exact .tup (SqT.of h1) (.cons (.str _) (.cons (.tup (SqT.of h2) (dpall (fun _ _ r => r.dp) p)) .nil))
theorem ToldA.dp {K : PySem.W.Frag} {H : Hp} {v : V} {s : Sg} (h : ToldA H v s) : Dp K H v (toD s) := by
  obtain ⟨a, q, ws, rfl, h1, h2, p⟩ := h
  exact .tup (SqT.of h1) (.cons (.str _) (.cons (.lst (SqL.of h2) (dpall (fun _ _ r => r.dp) p)) .nil))
theorem rw_nice {r : Rw} {outs many : Nat} (h : r.ok outs many) (ho : outs ≤ 2) (hm : many ≤ 100) : Nice 2 24 (rwD r) := by
  obtain ⟨h1, h2, h3, h4, h5⟩ := h
  refine nice_tup (n := 1) (w := 7) (m := 3) (fun d hd => ?_) (Nat.le_refl 3)
  simp only [List.mem_cons, List.not_mem_nil, or_false] at hd
  rcases hd with rfl | rfl | rfl
  · refine (nice_tup (n := 0) (w := 2) (m := 2) (fun d hd => ?_) (by rw [List.length_map]; omega)).mono (Nat.le_refl 1) (by decide)
    obtain ⟨b, hb, rfl⟩ := List.mem_map.mp hd
    exact nice_str (h2 b hb)
  · exact (nice_int (by omega)).mono (by decide) (Nat.le_refl 7)
  · exact (nice_int (by omega)).mono (by decide) (Nat.le_refl 7)
theorem rows_nice {s : Sg} {ins outs many : Nat} (h : s.ok ins outs many) (ho : outs ≤ 2) (hm : many ≤ 100) : (∀ d ∈ s.rows.map rwD, Nice 2 24 d) ∧ (s.rows.map rwD).length ≤ 4 := by
  obtain ⟨_, h2, h3⟩ := h
  refine ⟨fun d hd => ?_, ?_⟩
  · obtain ⟨r, hr, rfl⟩ := List.mem_map.mp hd
    exact rw_nice (h3 r hr) ho hm
  · rw [List.length_map, h2]
    cases s.reads <;> decide
theorem sg_nice {s : Sg} {ins outs many : Nat} (h : s.ok ins outs many) (ho : outs ≤ 2) (hm : many ≤ 100) : Nice 4 202 (sgD s) := by
  obtain ⟨a, b⟩ := rows_nice h ho hm
  refine nice_tup (n := 3) (w := 100) (m := 2) (fun d hd => ?_) (Nat.le_refl 2)
  simp only [List.mem_cons, List.not_mem_nil, or_false] at hd
  rcases hd with rfl | rfl
  · exact (nice_rd _).mono (by decide) (by decide)
  · exact nice_tup a b
theorem to_nice {s : Sg} {ins outs many : Nat} (h : s.ok ins outs many) (ho : outs ≤ 2) (hm : many ≤ 100) : Nice 4 202 (toD s) := by
  obtain ⟨a, b⟩ := rows_nice h ho hm
  refine nice_tup (n := 3) (w := 100) (m := 2) (fun d hd => ?_) (Nat.le_refl 2)
  simp only [List.mem_cons, List.not_mem_nil, or_false] at hd
  rcases hd with rfl | rfl
  · exact (nice_rd _).mono (by decide) (by decide)
  · exact nice_lst a b
theorem st_nice {t : Stn} (h : t.ok) : Nice 6 2439 (stD t) := by
  have := h.i2
  have := h.o2
  refine nice_tup (n := 5) (w := 812) (m := 3) (fun d hd => ?_) (Nat.le_refl 3)
  simp only [List.mem_cons, List.not_mem_nil, or_false] at hd
  rcases hd with rfl | rfl | rfl
  · exact (nice_int (by omega)).mono (by decide) (by decide)
  · exact (nice_int (by omega)).mono (by decide) (by decide)
  · refine nice_lst (n := 4) (w := 202) (m := 4) (fun d hd => ?_) (by rw [List.length_map]; exact h.m2)
    obtain ⟨s, hs, rfl⟩ := List.mem_map.mp hd
    exact to_nice (h.sg s hs) h.o2 (Nat.le_trans h.m2 (by decide))
theorem sgs_nice {t : Stn} (h : t.ok) : Nice 5 812 (.tuple (t.stgs.map sgD)) := by
  refine nice_tup (n := 4) (w := 202) (m := 4) (fun d hd => ?_) (by rw [List.length_map]; exact h.m2)
  obtain ⟨s, hs, rfl⟩ := List.mem_map.mp hd
  exact sg_nice (h.sg s hs) h.o2 (Nat.le_trans h.m2 (by decide))
/-! pipes and lines -/
def ppD (p : Pipe) : PyData := .tuple [.int p.1, .int p.2.1, .int p.2.2.1, .int p.2.2.2]
def lnD (l : Nat × Nat) : PyData := .tuple [.int l.1, .int l.2]
theorem PipeA.dp {K : PySem.W.Frag} {H : Hp} {v : V} {p : Pipe} (h : PipeA H v p) : Dp K H v (ppD p) := by
  obtain ⟨t, rfl, h⟩ := h
  exact .tup (SqT.of h) (.cons (.int _) (.cons (.int _) (.cons (.int _) (.cons (.int _) .nil))))
theorem pp_nice {p : Pipe} (h : p.1 ≤ 100 ∧ p.2.1 ≤ 100 ∧ p.2.2.1 ≤ 100 ∧ p.2.2.2 ≤ 100) : Nice 1 32 (ppD p) := by
  obtain ⟨h1, h2, h3, h4⟩ := h
  refine nice_tup (n := 0) (w := 7) (m := 4) (fun d hd => ?_) (Nat.le_refl 4)
  simp only [List.mem_cons, List.not_mem_nil, or_false] at hd
  rcases hd with rfl | rfl | rfl | rfl <;> exact nice_int (by assumption)
theorem ln_nice {l : Nat × Nat} (h : l.1 ≤ 100 ∧ l.2 ≤ 100) : Nice 1 16 (lnD l) := by
  refine nice_tup (n := 0) (w := 7) (m := 2) (fun d hd => ?_) (Nat.le_refl 2)
  simp only [List.mem_cons, List.not_mem_nil, or_false] at hd
  rcases hd with rfl | rfl
  · exact nice_int h.1
  · exact nice_int h.2
theorem ln_eqv (a b : Nat × Nat) : PyData.eqv (lnD a) (lnD b) = decide (a = b) := by
  obtain ⟨x, y⟩ := a
  obtain ⟨z, w⟩ := b
  simp only [lnD, PyData.eqv, PyData.eqvAll, Bool.and_true]
  by_cases h1 : x = z <;> by_cases h2 : y = w <;> simp [h1, h2] <;> omega
/-- the value is a pair of numbers, a tuple -/
def PrA (H : Hp) (v : V) (l : Nat × Nat) : Prop := ∃ t, v = .ref t ∧ H t = some (.tup [.int l.1, .int l.2])
theorem PrA.dp {K : PySem.W.Frag} {H : Hp} {v : V} {l : Nat × Nat} (h : PrA H v l) : Dp K H v (lnD l) := by
  obtain ⟨t, rfl, h⟩ := h
  exact .tup (SqT.of h) (.cons (.int _) (.cons (.int _) .nil))
theorem PrA.keep {H H' : Hp} (k : Tups H H') {v : V} {l : Nat × Nat} (h : PrA H v l) : PrA H' v l := by
  obtain ⟨t, e, h⟩ := h
  exact ⟨t, e, k _ _ h⟩
theorem pr_all {H H' : Hp} (k : Tups H H') : ∀ {vs : List V} {ls : List (Nat × Nat)}, Paired (PrA H) vs ls → Paired (PrA H') vs ls
  | _, _, .nil => .nil
  | _, _, .cons r q => .cons (r.keep k) (pr_all k q)
theorem any_ln (l : Nat × Nat) : ∀ ls : List (Nat × Nat), ((ls.map lnD).any fun z => PyData.eqv z (lnD l)) = decide (l ∈ ls)
  | [] => rfl
  | a :: r => by
    rw [List.map_cons, List.any_cons, any_ln l r, ln_eqv]
    by_cases h : a = l
    · subst h; simp
    · rw [decide_eq_false h, Bool.false_or]
      have : (l ∈ a :: r) ↔ l ∈ r := by
        rw [List.mem_cons]
        exact ⟨fun z => z.elim (fun e => absurd e.symm h) id, .inr⟩
      simp only [this]
/-! ## lists in A may change, all else stays -/
def KL (A : List Addr) (H H' : Hp) : Prop := ∀ b o, (b ∈ A → ∀ xs, o ≠ .lst xs) → H b = some o → H' b = some o
theorem KL.of {A : List Addr} {H H' : Hp} (s : Same H H') : KL A H H' := fun b o _ e => s b o e
theorem KL.trans {A : List Addr} {H H1 H2 : Hp} (a : KL A H H1) (b : KL A H1 H2) : KL A H H2 := fun x o n e => b x o n (a x o n e)
theorem KL.mono {A B : List Addr} {H H' : Hp} (a : KL A H H') (h : ∀ x ∈ A, x ∈ B) : KL B H H' := fun b o n e => a b o (fun z => n (h b z)) e
theorem KL.nl {A : List Addr} {H H' : Hp} (a : KL A H H') : NL H H' := fun b o n e => a b o (fun _ => n) e
theorem KL.tups {A : List Addr} {H H' : Hp} (a : KL A H H') : Tups H H' := a.nl.tups
theorem KL.at {A : List Addr} {H : Hp} {L : Addr} {xs : List V} {o : HO} (h : H L = some (.lst xs)) (m : L ∈ A) : KL A H (upd H L o) := fun b u n e => by
  rw [upd_ne (fun z => by rw [z, h] at e; exact n (z ▸ m) xs (Option.some.inj e).symm)]
  exact e
theorem KL.lst {A : List Addr} {H H' : Hp} (a : KL A H H') {L : Addr} {xs : List V} (n : L ∉ A) (h : H L = some (.lst xs)) : H' L = some (.lst xs) := a L _ (fun z => absurd z n) h
/-- a new object is in none of the lists that stand -/
theorem new_nin {A : List Addr} {H : Hp} {p : Addr} (h : ∀ a ∈ A, H a ≠ none) (hp : H p = none) : p ∉ A := fun m => h p m hp
def ToldX (A : List Addr) (H : Hp) (v : V) (s : Sg) : Prop := ∃ a q ws, v = .ref a ∧ H a = some (.tup [.str s.reads.s, .ref q]) ∧ q ∉ A ∧ H q = some (.lst ws) ∧ Paired (RwA H) ws s.rows
def DatA (A : List Addr) (H : Hp) (v : V) (t : Stn) : Prop := ∃ a L ws, v = .ref a ∧ H a = some (.tup [.int t.ins, .int t.outs, .ref L]) ∧ L ∉ A ∧ H L = some (.lst ws) ∧ Paired (ToldX A H) ws t.stgs
theorem ToldX.kl {A : List Addr} {H H' : Hp} (k : KL A H H') {v : V} {s : Sg} (h : ToldX A H v s) : ToldX A H' v s := by
  obtain ⟨a, q, ws, e, h1, n, h2, p⟩ := h
  exact ⟨a, q, ws, e, k.tups _ _ h1, n, k.lst n h2, rwA_all k.tups p⟩
theorem toldX_all {A : List Addr} {H H' : Hp} (k : KL A H H') : ∀ {vs : List V} {ss : List Sg}, Paired (ToldX A H) vs ss → Paired (ToldX A H') vs ss
  | _, _, .nil => .nil
  | _, _, .cons r q => .cons (r.kl k) (toldX_all k q)
theorem toldX_sub {A B : List Addr} {H : Hp} (h : ∀ x ∈ B, x ∈ A) : ∀ {vs : List V} {ss : List Sg}, Paired (ToldX A H) vs ss → Paired (ToldX B H) vs ss
  | _, _, .nil => .nil
  | _, _, .cons ⟨a, q, ws, e, h1, n, h2, p⟩ r => .cons ⟨a, q, ws, e, h1, fun z => n (h _ z), h2, p⟩ (toldX_sub h r)
theorem toldX_told {A : List Addr} {H : Hp} : ∀ {vs : List V} {ss : List Sg}, Paired (ToldX A H) vs ss → Paired (ToldA H) vs ss
  | _, _, .nil => .nil
  | _, _, .cons ⟨a, q, ws, e, h1, _, h2, p⟩ r => .cons ⟨a, q, ws, e, h1, h2, p⟩ (toldX_told r)
theorem DatA.kl {A : List Addr} {H H' : Hp} (k : KL A H H') {v : V} {t : Stn} (h : DatA A H v t) : DatA A H' v t := by
  obtain ⟨a, L, ws, e, h1, n, h2, p⟩ := h
  exact ⟨a, L, ws, e, k.tups _ _ h1, n, k.lst n h2, toldX_all k p⟩
theorem DatA.sub {A B : List Addr} (hs : ∀ x ∈ B, x ∈ A) {H : Hp} {v : V} {t : Stn} (h : DatA A H v t) : DatA B H v t := by
  obtain ⟨a, L, ws, e, h1, n, h2, p⟩ := h
  exact ⟨a, L, ws, e, h1, fun z => n (hs _ z), h2, toldX_sub hs p⟩
theorem dat_all {A : List Addr} {H H' : Hp} (k : KL A H H') : ∀ {vs : List V} {ts : List Stn}, Paired (DatA A H) vs ts → Paired (DatA A H') vs ts
  | _, _, .nil => .nil
  | _, _, .cons r q => .cons (r.kl k) (dat_all k q)
theorem dat_sub {A B : List Addr} (hs : ∀ x ∈ B, x ∈ A) {H : Hp} : ∀ {vs : List V} {ts : List Stn}, Paired (DatA A H) vs ts → Paired (DatA B H) vs ts
  | _, _, .nil => .nil
  | _, _, .cons r q => .cons (r.sub hs) (dat_sub hs q)
theorem DatA.dp {A : List Addr} {K : PySem.W.Frag} {H : Hp} {v : V} {t : Stn} (h : DatA A H v t) : Dp K H v (stD t) := by
  obtain ⟨a, L, ws, rfl, h1, _, h2, p⟩ := h
  exact .tup (SqT.of h1) (.cons (.int _) (.cons (.int _) (.cons (.lst (SqL.of h2) (dpall (fun _ _ r => r.dp) (toldX_told p))) .nil)))
end FY

set_option Elab.async false
set_option linter.all false
set_option maxRecDepth 100000
set_option maxHeartbeats 4000000
namespace FY
open PySem L2 FYR
theorem kListOf {X : Cx} (K : PySem.W.Frag) (hK : X.K = K) : CallR X (.type "list") (fun xs H Q => ∃ p ys, xs = [.ref p] ∧ (SqL K H p ys ∨ SqT K H p ys) ∧ ∀ l, H l = none → Q (.ref l) (upd H l (.lst ys))) := by subst hK; exact call_list_of
theorem kCv {X : Cx} (K : PySem.W.Frag) (hK : X.K = K) {e : Expr} {ta : TE} {f : Str} {pos : Pos} (he : PE X e ta) (hb : attributeBase e f X.env (eval e X.env) = eval e X.env := by rfl) : PE X (.Attribute e f pos) (ClX.tCVal K ta f) := by subst hK; exact ClX.pe_cval he hb
theorem kCon {X : Cx} (K : PySem.W.Frag) (hK : X.K = K) {e : Expr} {ta : TE} {f : Str} {pos : Pos} (he : PE X e ta) (hb : attributeBase e f X.env (eval e X.env) = eval e X.env := by rfl) : PE X (.Attribute e f pos) (tCon K ta f) := by subst hK; exact pe_con he hb
/-- what isinstance asks of an own class -/
structure IsaC (K : PySem.W.Frag) (C : Addr) : Prop where
  cl : Cls K C
  ha : PySem.W.findIn K (.ref C) "__class__" = some (some (.builtin "object.__class__"))
  hn : PySem.W.specialIn K (.builtin "object.__class__") "__get__" = some (some (.builtin "getset_descriptor.__get__"))
  htk : PySem.W.takesIn K (.builtin "object.__class__") = some true
  hm : PySem.W.mroIn K C (.type "object") = some true
theorem IsaC.ty {K : PySem.W.Frag} {C a dx : Addr} {fs : List (Str × V)} {H : Hp} (i : IsaC K C) (h : H a = some (.ins C dx fs)) : TyX K H (.ref a) (.ref C) := .base (.ins h i.cl i.ha i.hn i.htk i.hm)
theorem kit_self {K : PySem.W.Frag} {C : Addr} : PySem.W.kitOne K (.ref C) (.ref C) = some true := by
  unfold PySem.W.kitOne
  simp
def spStandings (C : Addr) : Sp := fun vs H Q _ => ∃ (v : V) (t : Stn) (A : List Addr), vs = [v] ∧ StnA C H v t ∧ t.stgs.length ≤ 100 ∧ (∀ a ∈ A, H a ≠ none) ∧ ∀ H' p ws, Same H H' → p ∉ A → H' p = some (.lst ws) → Paired (ToldX (p :: A) H') ws t.stgs → Q (.ref p) H'
def StEq (C : Addr) (a b : Addr) (H : Hp) : Prop := ∃ t, StnA C H (.ref a) t ∧ StnA C H (.ref b) t ∧ t.ok
theorem StEq.mon {C a b : Addr} {H H' : Hp} (e : Ext H H') (h : StEq C a b H) : StEq C a b H' := by
  obtain ⟨t, h1, h2, h3⟩ := h
  exact ⟨t, h1.but2 (fun b o _ q => e b o q), h2.but2 (fun b o _ q => e b o q), h3⟩
theorem eqv_dec {d : PyData} (h : d.canLay0 = true) : PyData.eqv d d = true := SeqAt.eqv_refl d h
section
variable {P : Program} {w : World} {K : PySem.W.Frag} {mg : Str → Option Value} {base : Heap} {aS a1 a2 aL aT : Addr} {f : Addr} {fd : FuncData} {C CD : Addr}
abbrev s_Station_standings : Stmt := inClass (top 40) 3
abbrev N_Station_standings : List Str := ["self", "reads", "rows"]
theorem sc_Station_standings : FnScope N_Station_standings ["self"] (defScope s_Station_standings) := ⟨rfl, rfl, rfl, by decide +kernel, rfl, by decide +kernel, by decide +kernel⟩
theorem ok_Station_standings (F : Fun K "standings" "Station.standings" s_Station_standings f fd) (T : Txt K mg aS a1 a2) (S : StC K mg C) : FnOk P w K mg base CX0 1 f fd ["self"] (spStandings C) := by
  refine F.ok sc_Station_standings (fun vs H Q E h => ?_) (fun cdv A outer s H vs Q E hr h => ?_)
  · obtain ⟨v, t, A', rfl, _⟩ := h
    rfl
  obtain ⟨v, t, A', rfl, ⟨a, dx, p, ps, rfl, ha, hp, pr⟩, hm, hA, q⟩ := h
  refine ⟨_, (pss_one (ps_ret (pe_lc (own := [("reads", 1), ("rows", 2)]) rfl sc_Station_standings.nd (kTup K rfl (kFld K rfl (pv 0))) (blkOk_by (N := N_Station_standings) (sc := defScope s_Station_standings) (by decide +kernel)) (fun _ _ _ _ _ => (kTupG (n := 2) K rfl rfl (pgs_cons (pg_name (i := 1) sc_Station_standings.nd rfl (Or.inl rfl)) (pgs_cons (pg_name (i := 2) sc_Station_standings.nd rfl (Or.inl rfl)) pgs_nil)))) (fun _ _ _ _ _ => pts_nil) (fun _ _ _ _ _ => (pe_tup (pa_cons (pv 1) (pa_cons (pe_callTy (kListOf K rfl) rfl T.b_list bt_list (pa_cons (pv 2) pa_nil)) pa_nil))))))), ?_⟩
  have hwl := paired_len pr
  refine ⟨_, rfl, a, C, dx, _, _, rfl, ha, S.cl, S.nS, rfl, _, rfl, ⟨_, SqT.of hp⟩, fun D hD => lc_it walk_tup (fun i H' => Same H H' ∧ ∃ us, H' D = some (.lst us) ∧ Paired (ToldX (D :: A') H') us (t.stgs.take i)) ⟨same_new hD _, [], upd_same, .nil⟩ (fun i H' _ z => SqT.of (z.1 _ _ hp)) ?_ ?_⟩
  · rintro i x H1 H2 hi ⟨sm, us, hd, pu⟩ ⟨rfl, hx⟩
    obtain ⟨sg, hsg, hxs⟩ := paired_get pr hx
    obtain ⟨b, l, rs, rfl, hb, hl, prs⟩ := hxs.keep (Tups.of sm)
    have hlu := paired_len pu
    have hil := lt_len hsg
    refine ⟨_, _, rfl, SqT.of hb, rfl, _, _, rfl, _, _, rfl, rfl, rfl, tyI ⟨_, rfl, _, rfl, _, _, rfl, .inr (SqT.of hl), fun p1 hp1 => ⟨sz rfl, fun p2 hp2 => ?_⟩⟩⟩
    have k1 := same_new hp1 (.lst rs)
    have k2 := same_new hp2 (.tup [.str sg.reads.s, .ref p1])
    have hd2 := k2 _ _ (k1 _ _ hd)
    have n1 : p1 ≠ D := fun z => by rw [z, hd] at hp1; cases hp1
    have nA : p1 ∉ A' := fun m => by
      cases e' : H p1 with
      | none => exact hA p1 m e'
      | some o => rw [sm _ _ e'] at hp1; cases hp1
    have kl : KL (D :: A') H2 (upd (upd (upd H2 p1 (.lst rs)) p2 (.tup [.str sg.reads.s, .ref p1])) D (.lst (us ++ [.ref p2]))) := (KL.of (k1.trans' k2)).trans (KL.at hd2 (by simp))
    refine ⟨_, hd2, ?_, same_at ((sm.trans' k1).trans' k2) hD, us ++ [.ref p2], upd_same, ?_⟩
    · rw [List.length_take] at hlu
      exact Nat.lt_of_lt_of_le (show us.length < 100000 by omega) (by decide)
    · rw [List.take_succ, hsg]
      refine paired_app (toldX_all kl pu) (.cons ⟨p2, p1, rs, rfl, tups_at hd2 _ _ upd_same, by simp [n1, nA], ?_, rwA_all kl.tups prs⟩ .nil)
      rw [upd_ne n1]
      exact k2 _ _ upd_same
  · rintro H1 ⟨sm, us, hd, pu⟩
    rw [hwl, List.take_of_length_le (Nat.le_refl _)] at pu
    exact q _ D _ sm (fun m => hA D m hD) hd pu
abbrev s_Station___eq__ : Stmt := inClass (top 40) 7
abbrev N_Station___eq__ : List Str := ["self", "other"]
theorem sc_Station___eq__ : FnScope N_Station___eq__ ["self", "other"] (defScope s_Station___eq__) := ⟨rfl, rfl, rfl, by decide +kernel, rfl, by decide +kernel, by decide +kernel⟩
theorem ok_Station_eq (F : Fun K "__eq__" "Station.__eq__" s_Station___eq__ f fd) (T : Txt K mg aS a1 a2) (S : StC K mg C) (I : IsaC K C) : FnOk P w K mg base CX0 1 f fd ["self", "other"] (spEq (StEq C)) := by
  refine F.ok sc_Station___eq__ (fun vs H Q E h => ?_) (fun cdv A outer s H vs Q E hr h => ?_)
  · obtain ⟨a, b, rfl, _⟩ := h
    rfl
  obtain ⟨x, y, rfl, ⟨t, ⟨a, dx, p, ps, ea, ha, hp, pr⟩, ⟨b, dy, p', ps', eb, hb, hp', pr'⟩, tok⟩, q⟩ := h
  cases ea
  cases eb
  refine ⟨_, (pss_cons (ps_if (PW.pt (pw_or (pt_not (pt_val (pe_callB (kIsi K rfl) rfl T.b_isinstance bt_isinstance (pa_cons (pv 1) (pa_cons (C8.pe_gc rfl S.g_Station) pa_nil))))) (pw_or (pt_cmpR op_ne (kFld K rfl (pv 0)) (kFld K rfl (pv 1)) (nomark _)) (pw_or1 (pt_cmpR op_ne (kFld K rfl (pv 0)) (kFld K rfl (pv 1)) (nomark _))))))
        (pss_one (ps_ret pe_bl))
        pss_nil)
        (pss_one (ps_ret (pe_cmpR (kEqD K rfl hr.units) (kFld K rfl (pv 0)) (kFld K rfl (pv 1)) (nomark _))))), ?_⟩
  refine ⟨_, rfl, _, _, _, _, _, rfl, .own C, I.ty hb, kit_self, _, rfl, iteF ?_⟩
  refine ⟨_, rfl, _, C, dx, _, _, rfl, ha, S.cl, S.nI, rfl, _, rfl, _, C, dy, _, _, rfl, hb, S.cl, S.nI, rfl, rfl, _, rfl, iteFd (by simp) ?_⟩
  refine ⟨_, rfl, _, C, dx, _, _, rfl, ha, S.cl, S.nO, rfl, _, rfl, _, C, dy, _, _, rfl, hb, S.cl, S.nO, rfl, rfl, _, rfl, iteFd (by simp) ?_⟩
  have ns := (sgs_nice tok)
  refine ⟨_, rfl, _, C, dx, _, _, rfl, ha, S.cl, S.nS, rfl, _, rfl, _, C, dy, _, _, rfl, hb, S.cl, S.nS, rfl, _, _, .tup (SqT.of hp) (dpall (fun _ _ r => r.dp) pr), .tup (SqT.of hp') (dpall (fun _ _ r => r.dp) pr'), ns.shp (by decide), ns.shp (by decide), ?_⟩
  rw [eqv_dec ns.lay]
  exact q _ Ext.rfl'
end
end FY


set_option Elab.async false
set_option linter.all false
set_option maxRecDepth 100000
set_option maxHeartbeats 4000000
namespace FY
open PySem L2 FYR
structure YdC (K : PySem.W.Frag) (mg : Str → Option Value) (CY : Addr) (mc : Value) : Prop where
  g_Yard : ∃ u, mg "Yard" = some u ∧ RelV (.ref CY) u
  cr : ClX.CRead K CY mc
  ms : ∃ u, ClX.CVal K CY mc "MOST_STATIONS" (.int 12) u
def spWantSt (C : Addr) : Sp := fun vs H Q _ => ∃ (L : Addr) (us : List V) (ts : List Stn), vs = [.ref L] ∧ H L = some (.lst us) ∧ Paired (StnA C H) us ts ∧ 1 ≤ ts.length ∧ ts.length ≤ 12 ∧ (∀ t, ts.head? = some t → t.ins = 1) ∧ ∀ H', Same H H' → Q .non H'
/-- a pipe that may stand between stations -/
structure PpOk (ts : List Stn) (p : Pipe) : Prop where
  lt : p.1 < p.2.2.1
  b : ∃ t, ts[p.1]? = some t ∧ p.2.1 < t.outs ∧ t.outs ≤ 2
  e : ∃ t, ts[p.2.2.1]? = some t ∧ p.2.2.2 < t.ins ∧ t.ins ≤ 2
def spIsPipe (C : Addr) : Sp := fun vs H Q _ => ∃ (L : Addr) (us : List V) (ts : List Stn) (v : V) (p : Pipe), vs = [.ref L, v] ∧ H L = some (.lst us) ∧ Paired (StnA C H) us ts ∧ PipeA H v p ∧ PpOk ts p ∧ Q (.bl true) H
theorem paired_at {α β : Type} {R : α → β → Prop} {a : List α} {b : List β} (h : Paired R a b) {i : Nat} {y : β} (hy : b[i]? = some y) : ∃ x, a[i]? = some x ∧ R x y := by
  induction h generalizing i with
  | nil => simp at hy
  | cons r q ih =>
    cases i with
    | zero => simp at hy; subst hy; exact ⟨_, rfl, r⟩
    | succ i => exact ih hy
theorem atI_nat {xs : List V} {i : Nat} {x : V} (h : xs[i]? = some x) : atI xs (i : Int) = some x := by
  unfold atI ixN
  rw [if_pos (by omega)]
  have := lt_len h
  simp [this]
  exact (List.getElem?_eq_some_iff.mp h).2
section
variable {P : Program} {w : World} {K : PySem.W.Frag} {mg : Str → Option Value} {base : Heap} {aS a1 a2 aL aT : Addr} {f : Addr} {fd : FuncData} {C CD CY : Addr} {mc : Value}
abbrev s_want_stations : Stmt := top 42
abbrev N_want_stations : List Str := ["stations", "position", "station"]
theorem sc_want_stations : FnScope N_want_stations ["stations"] (defScope s_want_stations) := ⟨rfl, rfl, rfl, by decide +kernel, rfl, by decide +kernel, by decide +kernel⟩
theorem ok_want_stations (F : Fun K "want_stations" "want_stations" s_want_stations f fd) (T : Txt K mg aS a1 a2) (S : StC K mg C) (I : IsaC K C) (Y : YdC K mg CY mc) (c_is_list : C8.Cal P w K mg base 1 "is_list" spIsList []) : FnOk P w K mg base CX0 2 f fd ["stations"] (spWantSt C) := by
  refine F.ok sc_want_stations (fun vs H Q E h => ?_) (fun cdv A outer s H vs Q E hr h => ?_)
  · obtain ⟨L, us, ts, rfl, _⟩ := h
    rfl
  obtain ⟨L, us, ts, rfl, hL, pr, m1, m2, h1, q⟩ := h
  have hwl := paired_len pr
  obtain ⟨u12, hu12⟩ := Y.ms
  refine ⟨_, (pss_cons (ps_if (PW.pt (pw_or (pt_not (pt_val (C8.pe_c c_is_list hr (by decide) rfl (pa_cons (pv 0) pa_nil)))) (pw_or1 (pt_not (pt_chain op_le op_le pe_int (pe_callB (kLen K rfl) rfl T.b_len bt_len (pa_cons (pv 0) pa_nil)) (kCv K rfl (C8.pe_gc rfl Y.g_Yard)))))))
        (pss_one ps_never)
        pss_nil)
        (pss_cons (ps_for PassesOwn.never rfl (kEnum K rfl rfl T.b_enumerate (pa_cons (pv 0) pa_nil)) (kTupG (n := 2) K rfl rfl (pgs_cons (pg_name (i := 1) sc_want_stations.nd rfl (Or.inl rfl)) (pgs_cons (pg_name (i := 2) sc_want_stations.nd rfl (Or.inl rfl)) pgs_nil)))
        (pss_one (ps_if (pt_not (pt_val (pe_callB (kIsi K rfl) rfl T.b_isinstance bt_isinstance (pa_cons (pv 2) (pa_cons (C8.pe_gc rfl S.g_Station) pa_nil)))))
        (pss_one ps_never)
        pss_nil)))
        (pss_one (ps_if (pt_cmpR op_ne (kFld K rfl (pe_ix (kIxL K rfl) (pv 0) pe_int (fun _ _ => rfl))) pe_int (nomark _))
        (pss_one ps_never)
        pss_nil)))), ?_⟩
  refine ⟨_, rfl, L, _, rfl, hL, fun H1 s1 => ⟨_, rfl, iteF ⟨_, rfl, _, _, rfl, .inl (SqL.of (s1 _ _ hL)), _, _, rfl, rfl, _, rfl, iteTd (by simp; omega) ⟨_, _, _, _, rfl, Y.cr, hu12, _, _, rfl, rfl, _, rfl, iteFd (by simp; omega) ?_⟩⟩⟩⟩
  have hL1 := s1 _ _ hL
  refine ⟨_, rfl, _, _, rfl, SqL.of hL1, for_it walk_enum (fun i σ H' => ∃ z1 z2 : Option V, σ = [some (.ref L), z1, z2] ∧ Same H H') ⟨_, _, rfl, s1⟩ (fun i σ H' _ ⟨_, _, _, e⟩ => SqL.of (e _ _ hL)) ?_ ?_⟩
  · rintro i x σ H2 H3 hi ⟨z4, z5, rfl, sm⟩ ⟨T0, p1, p2, rfl, hT0, rfl, hp1, hp2⟩
    obtain ⟨st, hst, a, dx, p, ps, rfl, ha, hp, pp⟩ := paired_get pr hp2
    have k0 := same_new hT0 (.tup [p1, .ref a])
    refine ⟨_, _, rfl, SqT.of upd_same, rfl, _, _, rfl, _, _, rfl, rfl, ?_⟩
    exact ⟨_, rfl, _, _, _, _, _, rfl, .own C, I.ty (k0 _ _ (sm _ _ ha)), kit_self, _, rfl, iteF ⟨_, _, rfl, sm.trans' k0⟩⟩
  · rintro σ H2 ⟨z4, z5, rfl, sm⟩
    cases pr with
    | nil => simp at m1
    | @cons v t vr tr r rr =>
      obtain ⟨a, dx, p, ps, rfl, ha, hp, pp⟩ := r
      have ht := h1 t rfl
      refine ⟨_, rfl, _, _, _, _, rfl, rfl, SqL.of (sm _ _ hL), at0, _, C, dx, _, _, rfl, sm _ _ ha, S.cl, S.nI, rfl, rfl, _, rfl, iteFd (by rw [ht]; rfl) (q _ sm)⟩
abbrev s_is_pipe : Stmt := top 43
abbrev N_is_pipe : List Str := ["stations", "value", "near", "line", "far", "entry"]
theorem sc_is_pipe : FnScope N_is_pipe ["stations", "value"] (defScope s_is_pipe) := ⟨rfl, rfl, rfl, by decide +kernel, rfl, by decide +kernel, by decide +kernel⟩
theorem ok_is_pipe (F : Fun K "is_pipe" "is_pipe" s_is_pipe f fd) (T : Txt K mg aS a1 a2) (S : StC K mg C) (c_is_below : C8.Cal P w K mg base 3 "is_below" spIsBelow []) : FnOk P w K mg base CX0 4 f fd ["stations", "value"] (spIsPipe C) := by
  refine F.ok sc_is_pipe (fun vs H Q E h => ?_) (fun cdv A outer s H vs Q E hr h => ?_)
  · obtain ⟨L, us, ts, v, p, rfl, _⟩ := h
    rfl
  obtain ⟨L, us, ts, v, p, rfl, hL, pr, ⟨tp, rfl, hp⟩, ⟨lt, ⟨t1, g1, b1, o1⟩, ⟨t2, g2, b2, o2⟩⟩, q⟩ := h
  have hwl := paired_len pr
  have l1 := lt_len g1
  have l2 := lt_len g2
  obtain ⟨x1, e1, a1', dx1, p1, ps1, rfl, ha1, _⟩ := paired_at pr g1
  obtain ⟨x2, e2, a2', dx2, p2, ps2, rfl, ha2, _⟩ := paired_at pr g2
  refine ⟨_, (pss_cons (ps_if (PW.pt (pw_or (pt_not (pt_val (pe_callB (kIsi K rfl) rfl T.b_isinstance bt_isinstance (pa_cons (pv 1) (pa_cons (pTy rfl T.b_tuple bt_tuple) pa_nil))))) (pw_or1 (pt_cmpR op_ne (pe_callB (kLen K rfl) rfl T.b_len bt_len (pa_cons (pv 1) pa_nil)) pe_int (nomark _)))))
        (pss_one (ps_ret pe_bl))
        pss_nil)
        (pss_cons (ps_asg (pv 1) (kTupG (n := 4) K rfl rfl (pgs_cons (pg_name (i := 2) sc_is_pipe.nd rfl (Or.inl rfl)) (pgs_cons (pg_name (i := 3) sc_is_pipe.nd rfl (Or.inl rfl)) (pgs_cons (pg_name (i := 4) sc_is_pipe.nd rfl (Or.inl rfl)) (pgs_cons (pg_name (i := 5) sc_is_pipe.nd rfl (Or.inl rfl)) pgs_nil))))))
        (pss_cons (ps_if (PW.pt (pw_or (pt_not (pt_val (C8.pe_c c_is_below hr (by decide) rfl (pa_cons (pv 2) (pa_cons (pe_callB (kLen K rfl) rfl T.b_len bt_len (pa_cons (pv 0) pa_nil)) pa_nil))))) (pw_or1 (pt_not (pt_val (C8.pe_c c_is_below hr (by decide) rfl (pa_cons (pv 4) (pa_cons (pe_callB (kLen K rfl) rfl T.b_len bt_len (pa_cons (pv 0) pa_nil)) pa_nil))))))))
        (pss_one (ps_ret pe_bl))
        pss_nil)
        (pss_cons (ps_if (PW.pt (pw_or (pt_cmpR op_ge (pv 2) (pv 4) (nomark _)) (pw_or (pt_not (pt_val (C8.pe_c c_is_below hr (by decide) rfl (pa_cons (pv 3) (pa_cons pe_int pa_nil))))) (pw_or1 (pt_not (pt_val (C8.pe_c c_is_below hr (by decide) rfl (pa_cons (pv 5) (pa_cons pe_int pa_nil)))))))))
        (pss_one (ps_ret pe_bl))
        pss_nil)
        (pss_one (ps_ret (pe_and (pe_cmpR op_lt (pv 3) (kFld K rfl (pe_ix (kIxL K rfl) (pv 0) (pv 2) (fun _ _ => rfl))) (nomark _)) (pe_one (pe_cmpR op_lt (pv 5) (kFld K rfl (pe_ix (kIxL K rfl) (pv 0) (pv 4) (fun _ _ => rfl))) (nomark _)))))))))), ?_⟩
  refine ⟨_, rfl, _, _, _, _, _, rfl, .ty _, ty_tup hp, ktt, _, rfl, iteF ⟨_, rfl, _, _, rfl, .inr (SqT.of hp), rfl, _, rfl, iteFd (by rw [dec_int]; rfl) ?_⟩⟩
  refine ⟨_, rfl, _, _, rfl, SqT.of hp, rfl, _, _, rfl, _, _, rfl, _, _, rfl, _, _, rfl, rfl, ?_⟩
  refine ⟨_, rfl, _, rfl, _, _, rfl, .inl (SqL.of hL), _, _, rfl, by omega, _, rfl, ?_⟩
  rw [decide_eq_true (by omega)]
  refine iteF ⟨_, rfl, _, rfl, _, _, rfl, .inl (SqL.of hL), _, _, rfl, by omega, _, rfl, ?_⟩
  rw [decide_eq_true (by omega)]
  refine iteF ⟨_, rfl, _, rfl, _, _, rfl, rfl, _, rfl, iteFd (by simp; omega) ?_⟩
  refine ⟨_, rfl, _, _, rfl, by omega, _, rfl, ?_⟩
  rw [decide_eq_true (by omega)]
  refine iteF ⟨_, rfl, _, _, rfl, by omega, _, rfl, ?_⟩
  rw [decide_eq_true (by omega)]
  refine iteF ⟨_, rfl, _, rfl, _, rfl, _, _, _, _, rfl, rfl, SqL.of hL, atI_nat e1, _, C, dx1, _, _, rfl, ha1, S.cl, S.nO, rfl, _, _, rfl, rfl, _, rfl, iteTd (by simp; omega) ?_⟩
  refine ⟨_, rfl, _, rfl, _, rfl, _, _, _, _, rfl, rfl, SqL.of hL, atI_nat e2, _, C, dx2, _, _, rfl, ha2, S.cl, S.nI, rfl, _, _, rfl, rfl, ?_⟩
  show Q (.bl (decide ((p.2.2.2 : Int) < (t2.ins : Int)))) H
  rw [decide_eq_true (by omega)]
  exact q
end
end FY


set_option Elab.async false
set_option linter.all false
set_option maxRecDepth 100000
set_option maxHeartbeats 4000000
namespace FY
open PySem L2 FYR
/-! comprehensions with two fors -/
section
variable {J J1 : It} {n n1 : Nat} {G G1 : Hp → Prop} {Y Y1 : Nat → Hp → V → Hp → Prop} {g g1 : TG} {tt tt1 : TT} {te : TE} {wi1 : TI} {vs vs1 : List Nat} {σ σ2 : St} {D : Addr}
def InnerL (g1 : TG) (tt1 : TT) (te : TE) (vs1 : List Nat) (σ2 : St) (D : Addr) (J1 : It) (H4 : Hp) (Nx : Hp → Prop) : Prop :=
  ∃ W1 : Nat → Nat → Hp → Prop, (∃ m, W1 0 m H4) ∧ ∀ j k H, W1 j k H → (J1.stop j H ∧ Nx H) ∨ (J1.go j H ∧ ∃ Nx1 : Hp → Prop, (∀ H', Nx1 H' → ∃ k', k' < k ∧ W1 (j + 1) k' H') ∧ ∀ x H', J1.yld j H x H' → g1 x (wipe σ2 vs1) H' fun σ3 H5 => wipe σ3 vs1 = wipe σ2 vs1 ∧ tt1 σ3 H5 fun b H6 => if b = true then te σ3 H6 fun y H7 => ∃ acc, H7 D = some (.lst acc) ∧ acc.length < sizeLine ∧ Nx1 (upd H7 D (.lst (acc ++ [y]))) else Nx1 H6)
theorem in_it (w : Walk J1 n1 G1 Y1) {H4 : Hp} {Nx : Hp → Prop} (Pv : Nat → Hp → Prop) (h0 : Pv 0 H4) (hG : ∀ i H, i ≤ n1 → Pv i H → G1 H)
    (hs : ∀ i x H H', i < n1 → Pv i H → Y1 i H x H' → g1 x (wipe σ2 vs1) H' fun σ3 H5 => wipe σ3 vs1 = wipe σ2 vs1 ∧ tt1 σ3 H5 fun b H6 => if b = true then te σ3 H6 fun y H7 => ∃ acc, H7 D = some (.lst acc) ∧ acc.length < sizeLine ∧ Pv (i + 1) (upd H7 D (.lst (acc ++ [y]))) else Pv (i + 1) H6)
    (hd : ∀ H, Pv n1 H → Nx H) : InnerL g1 tt1 te vs1 σ2 D J1 H4 Nx := by
  refine ⟨fun i m H => m = n1 - i ∧ i ≤ n1 ∧ Pv i H, ⟨n1, by simp, Nat.zero_le _, h0⟩, ?_⟩
  rintro i m H ⟨rfl, hi, p⟩
  have q := hG i H hi p
  by_cases hlt : i < n1
  · exact .inr ⟨w.goes i H hlt q, Pv (i + 1), (fun H' p' => ⟨n1 - (i + 1), by omega, rfl, hlt, p'⟩), fun x H' y => hs i x H H' hlt p (w.yields i H x H' hlt q y)⟩
  · obtain rfl : i = n1 := by omega
    exact .inl ⟨w.stops H q, hd H p⟩
theorem lc2_it (w : Walk J n G Y) {H1 : Hp} {Qd : Hp → Prop} (Pv : Nat → Hp → Prop) (h0 : Pv 0 (upd H1 D (.lst []))) (hG : ∀ i H, i ≤ n → Pv i H → G H)
    (hs : ∀ i x H H', i < n → Pv i H → Y i H x H' → g x (wipe σ vs) H' fun σ2 H2 => wipe σ2 vs = wipe σ vs ∧ tt σ2 H2 fun b H3 => if b = true then wi1 σ2 H3 fun J1 H4 => InnerL g1 tt1 te vs1 σ2 D J1 H4 (Pv (i + 1)) else Pv (i + 1) H3)
    (hd : ∀ H, Pv n H → Qd H) :
    ∃ W : Nat → Nat → Hp → Prop, (∃ m, W 0 m (upd H1 D (.lst []))) ∧ ∀ i m H, W i m H → (J.stop i H ∧ Qd H) ∨ (J.go i H ∧ ∃ Nx : Hp → Prop, (∀ H', Nx H' → ∃ m', m' < m ∧ W (i + 1) m' H') ∧ ∀ x H', J.yld i H x H' → g x (wipe σ vs) H' fun σ2 H2 => wipe σ2 vs = wipe σ vs ∧ tt σ2 H2 fun b H3 => if b = true then wi1 σ2 H3 fun J1 H4 => InnerL g1 tt1 te vs1 σ2 D J1 H4 Nx else Nx H3) := by
  refine ⟨fun i m H => m = n - i ∧ i ≤ n ∧ Pv i H, ⟨n, by simp, Nat.zero_le _, h0⟩, ?_⟩
  rintro i m H ⟨rfl, hi, p⟩
  have q := hG i H hi p
  by_cases hlt : i < n
  · exact .inr ⟨w.goes i H hlt q, Pv (i + 1), (fun H' p' => ⟨n - (i + 1), by omega, rfl, hlt, p'⟩), fun x H' y => hs i x H H' hlt p (w.yields i H x H' hlt q y)⟩
  · obtain rfl : i = n := by omega
    exact .inl ⟨w.stops H q, hd H p⟩
end
theorem hu65 {k : Nat} {A : Around} (r : Room k A) : A.units + 65 < cLine := by have := r.un; omega
theorem nwe {p : Prop} : ¬ (p ∧ (2 : Nat) = 4) := fun z => absurd z.2 (by decide)
theorem cutA (a b c d : V) : cutV [a, b, c, d] none (some 2) = [a, b] := rfl
theorem cutB (a b c d : V) : cutV [a, b, c, d] (some 2) none = [c, d] := rfl
theorem sum_ins : ∀ ts : List Stn, (ts.map fun t => (t.ins : Int)).sum = sumIns ts
  | [] => rfl
  | t :: r => by simp [sumIns, sum_ins r]
theorem lns_nice {ls : List (Nat × Nat)} (h : ∀ l ∈ ls, l.1 ≤ 100 ∧ l.2 ≤ 100) (hm : ls.length ≤ 1000) : Nice 2 17000 (.list (ls.map lnD)) := by
  refine nice_lst (n := 1) (w := 16) (m := 1000) (fun d hd => ?_) (by rw [List.length_map]; exact hm)
  obtain ⟨l, hl, rfl⟩ := List.mem_map.mp hd
  exact ln_nice (h l hl)
theorem ppok_le {ts : List Stn} {p : Pipe} (h : PpOk ts p) (hl : ts.length ≤ 100) : p.1 ≤ 100 ∧ p.2.1 ≤ 100 ∧ p.2.2.1 ≤ 100 ∧ p.2.2.2 ≤ 100 := by
  obtain ⟨lt, ⟨t1, g1, b1, o1⟩, ⟨t2, g2, b2, o2⟩⟩ := h
  have := lt_len g1
  have := lt_len g2
  omega
def spWantPp (C : Addr) : Sp := fun vs H Q _ => ∃ (L M : Addr) (us ws : List V) (ts : List Stn) (ps : List Pipe), vs = [.ref L, .ref M] ∧ H L = some (.lst us) ∧ Paired (StnA C H) us ts ∧ H M = some (.lst ws) ∧ Paired (PipeA H) ws ps ∧ (∀ p ∈ ps, PpOk ts p) ∧ (ps.map pb).Nodup ∧ (ps.map pe).Nodup ∧ sumIns ts ≤ ps.length + 1 ∧ ts.length ≤ 100 ∧ ps.length ≤ 1000 ∧ ∀ H', Same H H' → Q .non H'
section
variable {P : Program} {w : World} {K : PySem.W.Frag} {mg : Str → Option Value} {base : Heap} {aS a1 a2 aL aT : Addr} {f : Addr} {fd : FuncData} {C CD CY : Addr} {mc : Value}
abbrev s_want_pipes : Stmt := top 44
abbrev N_want_pipes : List Str := ["stations", "pipes", "begins", "ends", "position", "pipe", "station"]
theorem sc_want_pipes : FnScope N_want_pipes ["stations", "pipes"] (defScope s_want_pipes) := ⟨rfl, rfl, rfl, by decide +kernel, rfl, by decide +kernel, by decide +kernel⟩
theorem ok_want_pipes (F : Fun K "want_pipes" "want_pipes" s_want_pipes f fd) (T : Txt K mg aS a1 a2) (S : StC K mg C) (c_is_list : C8.Cal P w K mg base 1 "is_list" spIsList []) (c_is_pipe : C8.Cal P w K mg base 4 "is_pipe" (spIsPipe C) []) : FnOk P w K mg base CX0 5 f fd ["stations", "pipes"] (spWantPp C) := by
  refine F.ok sc_want_pipes (fun vs H Q E h => ?_) (fun cdv A outer s H vs Q E hr h => ?_)
  · obtain ⟨L, M, us, ws, ts, ps, rfl, _⟩ := h
    rfl
  obtain ⟨L, M, us, ws, ts, ps, rfl, hL, pr, hM, pp, pok, nb, ne, hsum, mt, mp, q⟩ := h
  have lt := paired_len pr
  have lp := paired_len pp
  refine ⟨_, (pss_cons (ps_if (pt_not (pt_val (C8.pe_c c_is_list hr (by decide) rfl (pa_cons (pv 1) pa_nil))))
        (pss_one ps_never)
        pss_nil)
        (pss_cons (ps_par (i := 2) (j := 3) rfl sc_want_pipes.nd rfl rfl (by decide) rfl rfl (pa_cons (pe_lst pa_nil) (pa_cons (pe_lst pa_nil) pa_nil)) rfl)
        (pss_cons (ps_for PassesOwn.never rfl (kEnum K rfl rfl T.b_enumerate (pa_cons (pv 1) pa_nil)) (kTupG (n := 2) K rfl rfl (pgs_cons (pg_name (i := 4) sc_want_pipes.nd rfl (Or.inl rfl)) (pgs_cons (pg_name (i := 5) sc_want_pipes.nd rfl (Or.inl rfl)) pgs_nil)))
        (pss_cons (ps_if (PW.pt (pw_or (pt_not (pt_val (C8.pe_c c_is_pipe hr (by decide) rfl (pa_cons (pv 0) (pa_cons (pv 5) pa_nil))))) (pw_or (pt_cmpR (kInD K rfl (hu65 hr)) (pe_slice (kSlT K rfl) (pv 5) po_none (po_some pe_int)) (pv 2) rfl) (pw_or1 (pt_cmpR (kInD K rfl (hu65 hr)) (pe_slice (kSlT K rfl) (pv 5) (po_some pe_int) po_none) (pv 3) rfl)))))
        (pss_one ps_never)
        pss_nil)
        (pss_cons (ps_expr (kBm K rfl PySem.F.plainAttrs_list PySem.F.slot_list_append PySem.F.type_list_append mt_append (pv 2) (pa_cons (pe_slice (kSlT K rfl) (pv 5) po_none (po_some pe_int)) pa_nil)))
        (pss_one (ps_expr (kBm K rfl PySem.F.plainAttrs_list PySem.F.slot_list_append PySem.F.type_list_append mt_append (pv 3) (pa_cons (pe_slice (kSlT K rfl) (pv 5) (po_some pe_int) po_none) pa_nil)))))))
        (pss_one (ps_if (pt_cmpR op_lt (pe_callB (kLen K rfl) rfl T.b_len bt_len (pa_cons (pv 1) pa_nil)) (pe_op op_sub (pe_callB (kSum K rfl rfl) rfl T.b_sum bt_sum (pa_cons (pe_lc (own := [("station", 6)]) rfl sc_want_pipes.nd (kList K rfl (pv 0)) (blkOk_by (N := N_want_pipes) (sc := defScope s_want_pipes) (by decide +kernel)) (fun _ _ _ _ _ => (pg_name (i := 6) sc_want_pipes.nd rfl (Or.inl rfl))) (fun _ _ _ _ _ => pts_nil) (fun _ _ _ _ _ => (kFld K rfl (pv 6)))) pa_nil)) pe_int) (nomark _))
        (pss_one ps_never)
        pss_nil))))), ?_⟩
  refine ⟨_, rfl, M, _, rfl, hM, fun H1 s1 => ⟨_, rfl, iteF ?_⟩⟩
  refine ⟨Nat.zero_le _, fun B hB => ⟨Nat.zero_le _, fun E0 hE0 => ⟨_, _, rfl, ?_⟩⟩⟩
  have nEB : E0 ≠ B := fun z => by rw [z, upd_same] at hE0; cases hE0
  have hE1 : H1 E0 = none := by rw [upd_ne nEB] at hE0; exact hE0
  have kB := same_new hB (.lst [])
  have kE := same_new hE0 (.lst [])
  have hM1 := s1 _ _ hM
  have hL1 := s1 _ _ hL
  refine ⟨_, rfl, _, _, rfl, SqL.of (kE _ _ (kB _ _ hM1)), for_it walk_enum (fun i σ H' => ∃ (z4 z5 : Option V) (bv ev : List V), σ = [some (.ref L), some (.ref M), some (.ref B), some (.ref E0), z4, z5, none] ∧ Same H1 H' ∧ H' B = some (.lst bv) ∧ Paired (PrA H') bv ((ps.take i).map pb) ∧ H' E0 = some (.lst ev) ∧ Paired (PrA H') ev ((ps.take i).map pe)) ?h0 (fun i σ H' _ ⟨_, _, _, _, _, e, _⟩ => SqL.of (e _ _ hM1)) ?hs ?hd⟩
  case h0 => exact ⟨_, _, [], [], rfl, kB.trans' kE, kE _ _ upd_same, .nil, upd_same, .nil⟩
  case hs =>
    rintro i x σ H2 H3 hi ⟨z4, z5, bv, ev, rfl, sm, hB2, pb2, hE2, pe2⟩ ⟨T0, p1, p2, rfl, hT0, rfl, hp1, hp2⟩
    obtain ⟨pi, hpi, hx⟩ := paired_get pp hp2
    have hil := lt_len hpi
    have k0 := same_new hT0 (.tup [p1, p2])
    have s3 : Same H1 (upd H2 T0 (.tup [p1, p2])) := sm.trans' k0
    have hok := pok pi (List.mem_of_getElem? hpi)
    have tk : ps.take (i + 1) = ps.take i ++ [pi] := by rw [List.take_succ, hpi]; rfl
    have lb := paired_len pb2
    have le := paired_len pe2
    rw [List.length_map, List.length_take] at lb le
    refine ⟨_, _, rfl, SqT.of upd_same, rfl, _, _, rfl, _, _, rfl, rfl, ?_⟩
    obtain ⟨tp, rfl, htp⟩ := hx
    have htp3 : upd H2 T0 (.tup [p1, .ref tp]) tp = _ := s3 _ _ (s1 _ _ htp)
    refine ⟨_, rfl, _, rfl, L, us, ts, .ref tp, pi, rfl, s3 _ _ hL1, stn_all (NL.of (s1.trans' s3)) pr, ⟨tp, rfl, htp3⟩, hok, _, rfl, iteF ?_⟩
    -- pipe[:2] in begins
    refine ⟨_, rfl, _, rfl, _, _, rfl, SqT.of htp3, nwe, fun q1 hq1 => ⟨_, rfl, ?_⟩⟩
    have k1 := same_new hq1 (.tup [.int pi.1, .int pi.2.1])
    have pb3 := pr_all (Tups.of (k0.trans' k1)) pb2
    have small : ∀ l ∈ (ps.take i).map pb, l.1 ≤ 100 ∧ l.2 ≤ 100 := fun l hl => by
      obtain ⟨y, hy, rfl⟩ := List.mem_map.mp hl
      have := ppok_le (pok y (List.mem_of_mem_take hy)) mt
      exact ⟨this.1, this.2.1⟩
    have small2 : ∀ l ∈ (ps.take i).map pe, l.1 ≤ 100 ∧ l.2 ≤ 100 := fun l hl => by
      obtain ⟨y, hy, rfl⟩ := List.mem_map.mp hl
      have := ppok_le (pok y (List.mem_of_mem_take hy)) mt
      exact ⟨this.2.2.1, this.2.2.2⟩
    have pl := ppok_le hok mt
    have ni : pb pi ∉ (ps.take i).map pb := fun z => by
      have h1 := nb
      rw [← List.take_append_drop (i + 1) ps, tk, List.map_append, List.map_append] at h1
      exact (List.nodup_append.mp (List.nodup_append.mp h1).1).2.2 _ z _ (by simp) rfl
    have ni2 : pe pi ∉ (ps.take i).map pe := fun z => by
      have h1 := ne
      rw [← List.take_append_drop (i + 1) ps, tk, List.map_append, List.map_append] at h1
      exact (List.nodup_append.mp (List.nodup_append.mp h1).1).2.2 _ z _ (by simp) rfl
    refine ⟨lnD (pb pi), _, .tup (SqT.of upd_same) (.cons (.int _) (.cons (.int _) .nil)), .lst (SqL.of (k1 _ _ (k0 _ _ hB2))) (dpall (fun _ _ r => r.dp) pb3), (ln_nice ⟨pl.1, pl.2.1⟩).shp (by decide), (lns_nice small (by rw [List.length_map, List.length_take]; omega)).shp (by decide), _, rfl, ?_⟩
    rw [any_ln, decide_eq_false ni]
    refine iteF ?_
    -- pipe[2:] in ends
    have htp4 := k1 _ _ htp3
    refine ⟨_, rfl, _, rfl, _, _, rfl, SqT.of htp4, nw2, fun q2 hq2 => ⟨_, rfl, ?_⟩⟩
    have k2 := same_new hq2 (.tup [.int pi.2.2.1, .int pi.2.2.2])
    have pe3 := pr_all (Tups.of ((k0.trans' k1).trans' k2)) pe2
    refine ⟨lnD (pe pi), _, .tup (SqT.of upd_same) (.cons (.int _) (.cons (.int _) .nil)), .lst (SqL.of (k2 _ _ (k1 _ _ (k0 _ _ hE2)))) (dpall (fun _ _ r => r.dp) pe3), (ln_nice ⟨pl.2.2.1, pl.2.2.2⟩).shp (by decide), (lns_nice small2 (by rw [List.length_map, List.length_take]; omega)).shp (by decide), _, rfl, ?_⟩
    rw [any_ln, decide_eq_false ni2]
    refine iteF ?_
    -- begins.append(pipe[:2])
    have s5 : Same H2 _ := (k0.trans' k1).trans' k2
    have hB5 := s5 _ _ hB2
    have hE5 := s5 _ _ hE2
    have htp5 := k2 _ _ htp4
    refine ⟨_, rfl, .inl ⟨rfl, _, SqL.of hB5⟩, _, rfl, _, rfl, _, _, rfl, SqT.of htp5, nwe, fun q3 hq3 => ?_⟩
    have k3 := same_new hq3 (.tup [.int pi.1, .int pi.2.1])
    have hB6 := k3 _ _ hB5
    refine ⟨B, bv, .ref q3, rfl, rfl, hB6, ?_, ?_⟩
    · exact Nat.lt_of_lt_of_le (show bv.length < 100000 by omega) (by decide)
    obtain ⟨H6, hH6⟩ : ∃ H6, H6 = upd (upd (upd (upd (upd H2 T0 (.tup [p1, .ref tp])) q1 (.tup [.int pi.1, .int pi.2.1])) q2 (.tup [.int pi.2.2.1, .int pi.2.2.2])) q3 (.tup [.int pi.1, .int pi.2.1])) B (.lst (bv ++ [.ref q3])) := ⟨_, rfl⟩
    have t6 : Tups H2 H6 := by rw [hH6]; exact (Tups.of (s5.trans' k3)).trans (tups_at hB6)
    have f6 : ∀ b o, b ≠ B → H2 b = some o → H6 b = some o := fun b o hb e => by rw [hH6, upd_ne hb]; exact (s5.trans' k3) _ _ e
    have hB7 : H6 B = some (.lst (bv ++ [.ref q3])) := by rw [hH6, upd_same]
    have hq37 : H6 q3 = some (.tup [.int pi.1, .int pi.2.1]) := by rw [hH6]; exact tups_at hB6 _ _ upd_same
    have hE7 : H6 E0 = some (.lst ev) := f6 _ _ nEB hE2
    have htp7 : H6 tp = _ := t6 _ _ (sm _ _ (s1 _ _ htp))
    rw [cutA, cutB, ← hH6]
    clear hH6
    refine ⟨_, rfl, .inl ⟨rfl, _, SqL.of hE7⟩, _, rfl, _, rfl, _, _, rfl, SqT.of htp7, nw2, fun q4 hq4 => ?_⟩
    have k4 := same_new hq4 (.tup [.int pi.2.2.1, .int pi.2.2.2])
    have hE8 := k4 _ _ hE7
    refine ⟨E0, ev, .ref q4, rfl, rfl, hE8, ?_, ?_⟩
    · exact Nat.lt_of_lt_of_le (show ev.length < 100000 by omega) (by decide)
    have t8 : Tups H6 _ := (Tups.of k4).trans (tups_at (o := .lst (ev ++ [.ref q4])) hE8)
    refine ⟨_, _, bv ++ [.ref q3], ev ++ [.ref q4], rfl, fun b o e => ?_, ?_, ?_, upd_same, ?_⟩
    · rw [upd_ne (ne_of_none e hE1)]
      exact k4 _ _ (f6 b o (ne_of_none e hB) (sm _ _ e))
    · rw [upd_ne (Ne.symm nEB)]
      exact k4 _ _ hB7
    · rw [tk, List.map_append]
      exact paired_app (pr_all (t6.trans t8) pb2) (.cons ⟨q3, rfl, t8 _ _ hq37⟩ .nil)
    · rw [tk, List.map_append]
      exact paired_app (pr_all (t6.trans t8) pe2) (.cons ⟨q4, rfl, tups_at hE8 _ _ upd_same⟩ .nil)
  case hd =>
    rintro σ H2 ⟨z4, z5, bv, ev, rfl, sm, hB2, pb2, hE2, pe2⟩
    refine ⟨_, rfl, _, _, rfl, .inl (SqL.of (sm _ _ hM1)), ?_⟩
    have hL2 := sm _ _ hL1
    refine ⟨_, rfl, _, rfl, ⟨_, SqL.of hL2⟩, fun D hD => lc_it walk_list (fun i H' => Same H2 H' ∧ H' D = some (.lst (((ts.take i).map fun t => (t.ins : Int)).map V.int))) ⟨same_new hD _, upd_same⟩ (fun i H' _ z => SqL.of (z.1 _ _ hL2)) ?_ ?_⟩
    · rintro i x H3 H4 hi ⟨sm3, hd3⟩ ⟨rfl, hx⟩
      obtain ⟨st, hst, a, dx, p, ps', rfl, ha, hp, prs⟩ := paired_get pr hx
      have hil := lt_len hst
      refine ⟨rfl, tyI ⟨_, rfl, a, C, dx, _, _, rfl, sm3 _ _ (sm _ _ (s1 _ _ ha)), S.cl, S.nI, rfl, ?_⟩⟩
      refine ⟨_, hd3, ?_, same_at sm3 hD, ?_⟩
      · rw [List.length_map]
        exact take_len_le _ _ _ (by omega)
      · rw [upd_same, ← take_one _ hst]
        simp
    · rintro H3 ⟨sm3, hd3⟩
      rw [lt, List.take_of_length_le (Nat.le_refl _)] at hd3
      refine ⟨_, _, rfl, SqL.of hd3, _, _, rfl, rfl, _, _, rfl, rfl, _, rfl, ?_⟩
      rw [sum_ins]
      refine iteFd ?_ (q _ ((s1.trans' sm).trans' sm3))
      simp
      omega
end
end FY


set_option Elab.async false
set_option linter.all false
set_option maxRecDepth 100000
set_option maxHeartbeats 4000000
namespace FY
open PySem L2 FYR
def exitsOf (ts : List Stn) (ps : List Pipe) : List (Nat × Nat) := (linesFrom 0 ts).filter fun l => !decide (l ∈ ps.map pb)
theorem lines_le : ∀ {n : Nat} {ts : List Stn}, (∀ t ∈ ts, t.outs ≤ 2) → (linesFrom n ts).length ≤ 2 * ts.length
  | n, [], _ => Nat.le_refl 0
  | n, t :: r, h => by
    have h1 := h t (List.mem_cons_self ..)
    have h2 := lines_le (n := n + 1) (ts := r) fun x hx => h x (List.mem_cons_of_mem _ hx)
    simp only [linesFrom, List.length_append, List.length_map, List.length_range, List.length_cons]
    omega
theorem line_small {ts : List Stn} (h : ∀ t ∈ ts, t.outs ≤ 2) (hl : ts.length ≤ 100) {l : Nat × Nat} (hm : l ∈ linesFrom 0 ts) : l.1 ≤ 100 ∧ l.2 ≤ 100 := by
  obtain ⟨i, t, ht, e, lt⟩ := mem_lines hm
  have := lt_len ht
  have := h t (List.mem_of_getElem? ht)
  omega
theorem lines_take {ts : List Stn} {i : Nat} {t : Stn} (h : ts[i]? = some t) : linesFrom 0 (ts.take (i + 1)) = linesFrom 0 (ts.take i) ++ (List.range t.outs).map fun k => (i, k) := by
  have hi := lt_len h
  rw [List.take_succ, h]
  show linesFrom 0 (ts.take i ++ [t]) = _
  rw [linesFrom_app, List.length_take, Nat.min_eq_left (by omega), Nat.zero_add]
  simp [linesFrom]
theorem walk_range0 {n : Nat} : Walk (Itr 0 n) n (fun _ => True) (fun i H x H' => H' = H ∧ x = V.int (i : Nat)) := walk_range.mono (fun _ h => h) (fun i H x H' _ _ ⟨e, h⟩ => ⟨e, by rw [h]; simp⟩)
def spFree (C : Addr) : Sp := fun vs H Q _ => ∃ (L M : Addr) (us ws : List V) (ts : List Stn) (ps : List Pipe), vs = [.ref L, .ref M] ∧ H L = some (.lst us) ∧ Paired (StnA C H) us ts ∧ H M = some (.lst ws) ∧ Paired (PipeA H) ws ps ∧ (∀ p ∈ ps, PpOk ts p) ∧ (∀ t ∈ ts, t.outs ≤ 2) ∧ ts.length ≤ 100 ∧ ps.length ≤ 1000 ∧
  ∀ H' p es, Same H H' → H' p = some (.tup es) → Paired (PrA H') es (exitsOf ts ps) → Q (.ref p) H'
section
variable {P : Program} {w : World} {K : PySem.W.Frag} {mg : Str → Option Value} {base : Heap} {aS a1 a2 aL aT : Addr} {f : Addr} {fd : FuncData} {C CD CY : Addr} {mc : Value}
abbrev s_free_lines : Stmt := top 45
abbrev N_free_lines : List Str := ["stations", "pipes", "taken", "lines", "pipe", "number", "station", "line", "place"]
theorem sc_free_lines : FnScope N_free_lines ["stations", "pipes"] (defScope s_free_lines) := ⟨rfl, rfl, rfl, by decide +kernel, rfl, by decide +kernel, by decide +kernel⟩
theorem ok_free_lines (F : Fun K "free_lines" "free_lines" s_free_lines f fd) (T : Txt K mg aS a1 a2) (S : StC K mg C) : FnOk P w K mg base CX0 1 f fd ["stations", "pipes"] (spFree C) := by
  refine F.ok sc_free_lines (fun vs H Q E h => ?_) (fun cdv A outer s H vs Q E hr h => ?_)
  · obtain ⟨L, M, us, ws, ts, ps, rfl, _⟩ := h
    rfl
  obtain ⟨L, M, us, ws, ts, ps, rfl, hL, pr, hM, pp, pok, o2, mt, mp, q⟩ := h
  have lt := paired_len pr
  have lp := paired_len pp
  refine ⟨_, (pss_cons (ps_set (i := 2) sc_free_lines.nd rfl (Or.inr rfl) (pe_lc (own := [("pipe", 4)]) rfl sc_free_lines.nd (kList K rfl (pv 1)) (blkOk_by (N := N_free_lines) (sc := defScope s_free_lines) (by decide +kernel)) (fun _ _ _ _ _ => (pg_name (i := 4) sc_free_lines.nd rfl (Or.inl rfl))) (fun _ _ _ _ _ => pts_nil) (fun _ _ _ _ _ => (pe_slice (kSlT K rfl) (pv 4) po_none (po_some pe_int)))))
        (pss_cons (ps_setLc2 (i := 3) (own := [("number", 5), ("station", 6), ("line", 7)]) (vs1 := [7]) rfl sc_free_lines.nd rfl rfl (sw_true rfl rfl rfl (by decide +kernel)) (kEnum K rfl rfl T.b_enumerate (pa_cons (pv 0) pa_nil)) (blkOk_by (N := N_free_lines) (sc := defScope s_free_lines) (by decide +kernel)) (by decide) (fun _ _ _ _ _ => (kTupG (n := 2) K rfl rfl (pgs_cons (pg_name (i := 5) sc_free_lines.nd rfl (Or.inl rfl)) (pgs_cons (pg_name (i := 6) sc_free_lines.nd rfl (Or.inl rfl)) pgs_nil)))) (fun _ _ _ _ _ => pts_nil) (fun _ _ _ _ _ => (pi_range1 rfl T.b_range (pa_cons (kFld K rfl (pv 6)) pa_nil))) (fun _ _ _ _ _ => (pg_name (i := 7) sc_free_lines.nd rfl (Or.inl rfl))) (fun _ _ _ _ _ => pts_nil) (fun _ _ _ _ _ => (pe_tup (pa_cons (pv 5) (pa_cons (pv 7) pa_nil)))))
        (pss_one (ps_ret (pe_callTy (kTupOf K rfl) rfl T.b_tuple bt_tuple (pa_cons (pe_lc (own := [("place", 8)]) rfl sc_free_lines.nd (kList K rfl (pv 3)) (blkOk_by (N := N_free_lines) (sc := defScope s_free_lines) (by decide +kernel)) (fun _ _ _ _ _ => (pg_name (i := 8) sc_free_lines.nd rfl (Or.inl rfl))) (fun _ _ _ _ _ => pts_one (pt_cmpR (kNotInD K rfl (hu65 hr)) (pv 8) (pv 2) rfl)) (fun _ _ _ _ _ => (pv 8))) pa_nil)))))), ?_⟩
  -- taken
  refine ⟨_, rfl, _, rfl, ⟨_, SqL.of hM⟩, fun D1 hD1 => lc_it walk_list (fun i H' => Same H H' ∧ ∃ tv, H' D1 = some (.lst tv) ∧ Paired (PrA H') tv ((ps.take i).map pb)) ⟨same_new hD1 _, [], upd_same, .nil⟩ (fun i H' _ z => SqL.of (z.1 _ _ hM)) ?_ ?_⟩
  · rintro i x H1 H2 hi ⟨sm, tv, hd, pt⟩ ⟨rfl, hx⟩
    obtain ⟨pi, hpi, tp, rfl, htp⟩ := paired_get pp hx
    have hil := lt_len hpi
    have hlt := paired_len pt
    refine ⟨rfl, tyI ⟨_, rfl, _, rfl, _, _, rfl, SqT.of (sm _ _ htp), nwe, fun q1 hq1 => ?_⟩⟩
    have k1 := same_new hq1 (.tup [.int pi.1, .int pi.2.1])
    have hd1 := k1 _ _ hd
    refine ⟨_, hd1, ?_, same_at (sm.trans' k1) hD1, tv ++ [.ref q1], upd_same, ?_⟩
    · rw [List.length_map, List.length_take] at hlt
      exact Nat.lt_of_lt_of_le (show tv.length < 100000 by omega) (by decide)
    · rw [← take_one _ hpi]
      exact paired_app (pr_all ((Tups.of k1).trans (tups_at hd1)) pt) (.cons ⟨q1, rfl, tups_at hd1 _ _ upd_same⟩ .nil)
  rintro H1 ⟨sm1, tv, hd1, pt1⟩
  rw [lp, List.take_of_length_le (Nat.le_refl _)] at pt1
  -- lines
  have hL1 := sm1 _ _ hL
  refine ⟨_, rfl, _, _, rfl, SqL.of hL1, fun D2 hD2 => lc2_it walk_enum (fun i H' => Same H1 H' ∧ ∃ lv, H' D2 = some (.lst lv) ∧ Paired (PrA H') lv (linesFrom 0 (ts.take i))) ⟨same_new hD2 _, [], upd_same, .nil⟩ (fun i H' _ z => SqL.of (z.1 _ _ hL1)) ?_ ?_⟩
  · rintro i x H2 H3 hi ⟨sm, lv, hd, pl⟩ ⟨T0, p1, p2, rfl, hT0, rfl, hp1, hp2⟩
    obtain ⟨st, hst, a, dx, p, ps', rfl, ha, hp, prs⟩ := paired_get pr hp2
    have hil := lt_len hst
    obtain rfl : V.int (i : Nat) = p1 := by simpa using hp1
    have k0 := same_new hT0 (.tup [.int (i : Nat), .ref a])
    have ho := o2 st (List.mem_of_getElem? hst)
    have hd0 := k0 _ _ hd
    have llv := paired_len pl
    have lle := lines_le (n := 0) (ts := ts.take i) fun t ht => o2 t (List.mem_of_mem_take ht)
    rw [List.length_take] at lle
    refine ⟨_, _, rfl, SqT.of upd_same, rfl, _, _, rfl, _, _, rfl, rfl, rfl, tyI ⟨_, rfl, a, C, dx, _, _, rfl, k0 _ _ (sm _ _ (sm1 _ _ ha)), S.cl, S.nO, rfl, _, rfl, ?_, ?_, in_it walk_range0 (fun j H' => Same H1 H' ∧ ∃ lv', H' D2 = some (.lst lv') ∧ Paired (PrA H') lv' (linesFrom 0 (ts.take i) ++ (List.range j).map fun k => (i, k))) ⟨sm.trans' k0, lv, hd0, by simpa using pr_all (Tups.of k0) pl⟩ (fun _ _ _ _ => trivial) ?_ ?_⟩⟩
    · omega
    · omega
    · rintro j x H4 H5 hj ⟨sm4, lv4, hd4, pl4⟩ ⟨rfl, rfl⟩
      have hj' : j < st.outs := by omega
      have ll4 := paired_len pl4
      rw [List.length_append, List.length_map, List.length_range] at ll4
      refine ⟨rfl, tyI ⟨_, rfl, _, rfl, sz rfl, fun p6 hp6 => ?_⟩⟩
      have k6 := same_new hp6 (.tup [.int (i : Nat), .int (j : Nat)])
      have hd6 := k6 _ _ hd4
      refine ⟨_, hd6, ?_, same_at (sm4.trans' k6) hD2, lv4 ++ [.ref p6], upd_same, ?_⟩
      · exact Nat.lt_of_lt_of_le (show lv4.length < 100000 by omega) (by decide)
      · rw [List.range_succ, List.map_append, ← List.append_assoc]
        exact paired_app (pr_all ((Tups.of k6).trans (tups_at hd6)) pl4) (.cons ⟨p6, rfl, tups_at hd6 _ _ upd_same⟩ .nil)
    · rintro H4 ⟨sm4, lv4, hd4, pl4⟩
      rw [Int.toNat_natCast] at pl4
      exact ⟨sm4, lv4, hd4, by rw [lines_take hst]; exact pl4⟩
  rintro H2 ⟨sm2, lv, hd2, pl2⟩
  rw [lt, List.take_of_length_le (Nat.le_refl _)] at pl2
  have hd12 := sm2 _ _ hd1
  have pt2 := pr_all (Tups.of sm2) pt1
  have llv := paired_len pl2
  have lle := lines_le (n := 0) o2
  have smallT : ∀ l ∈ ps.map pb, l.1 ≤ 100 ∧ l.2 ≤ 100 := fun l hl => by
    obtain ⟨y, hy, rfl⟩ := List.mem_map.mp hl
    have := ppok_le (pok y hy) mt
    exact ⟨this.1, this.2.1⟩
  refine ⟨_, rfl, _, rfl, ⟨_, SqL.of hd2⟩, fun D3 hD3 => lc_it walk_list (fun i H' => Same H2 H' ∧ ∃ es, H' D3 = some (.lst es) ∧ es.length ≤ i ∧ Paired (PrA H') es (((linesFrom 0 ts).take i).filter fun l => !decide (l ∈ ps.map pb))) ⟨same_new hD3 _, [], upd_same, Nat.le_refl 0, .nil⟩ (fun i H' _ z => SqL.of (z.1 _ _ hd2)) ?_ ?_⟩
  · rintro i x H3 H4 hi ⟨sm, es, hd, le, pe3⟩ ⟨rfl, hx⟩
    obtain ⟨l, hl, hxl⟩ := paired_get pl2 hx
    have hil := lt_len hl
    have hs := line_small o2 mt (List.mem_of_getElem? hl)
    have hxl3 := hxl.keep (Tups.of sm)
    refine ⟨rfl, _, rfl, _, rfl, lnD l, _, hxl3.dp, .lst (SqL.of (sm _ _ hd12)) (dpall (fun _ _ r => r.dp) (pr_all (Tups.of sm) pt2)), (ln_nice hs).shp (by decide), (lns_nice smallT (by rw [List.length_map]; exact mp)).shp (by decide), _, rfl, ?_⟩
    rw [any_ln]
    have tk : (linesFrom 0 ts).take (i + 1) = (linesFrom 0 ts).take i ++ [l] := by rw [List.take_succ, hl]; rfl
    by_cases hm : l ∈ ps.map pb
    · rw [decide_eq_true hm]
      refine iteF ⟨sm, es, hd, by omega, ?_⟩
      rw [tk, List.filter_append, List.filter_cons_of_neg (by simp [hm]), List.filter_nil, List.append_nil]
      exact pe3
    · rw [decide_eq_false hm]
      refine iteT ⟨_, rfl, _, hd, ?_, same_at sm hD3, es ++ [x], upd_same, ?_, ?_⟩
      · exact Nat.lt_of_lt_of_le (show es.length < 100000 by omega) (by decide)
      · rw [List.length_append]
        exact Nat.succ_le_succ le
      · rw [tk, List.filter_append, List.filter_cons_of_pos (by simpa using hm), List.filter_nil]
        exact paired_app (pr_all (tups_at hd) pe3) (.cons (hxl3.keep (tups_at hd)) .nil)
  rintro H3 ⟨sm3, es, hd3, le, pe3⟩
  rw [llv, List.take_of_length_le (Nat.le_refl _)] at pe3
  refine ⟨_, _, rfl, .inl ⟨SqL.of hd3, fun p hp => ?_⟩⟩
  have k := same_new hp (.tup es)
  exact q _ p es (((sm1.trans' sm2).trans' sm3).trans' k) upd_same (pr_all (Tups.of k) pe3)
end
end FY


set_option Elab.async false
set_option linter.all false
set_option maxRecDepth 100000
set_option maxHeartbeats 4000000
namespace FY
open PySem L2 FYR
theorem dcT_it {J : It} {n : Nat} {G : Hp → Prop} {Y : Nat → Hp → V → Hp → Prop} (w : Walk J n G Y) {g : TG} {tt : TT} {tk tv : TE} {vs : List Nat} {σ : St} {H1 : Hp} {D : Addr} {Qd : Hp → Prop} (Pv : Nat → Hp → Prop) (h0 : Pv 0 (upd H1 D (.dT []))) (hG : ∀ i H, i ≤ n → Pv i H → G H)
    (hs : ∀ i x H H', i < n → Pv i H → Y i H x H' → g x (wipe σ vs) H' fun σ2 H2 => wipe σ2 vs = wipe σ vs ∧ tt σ2 H2 fun b H3 =>
      if b = true then tk σ2 H3 fun y H4 => tv σ2 H4 fun z H5 => ∃ kvs k a, y = .ref a ∧ H5 a = some (.tup (k.map kV)) ∧ H5 D = some (.dT kvs) ∧ kvs.length < sizeLine ∧ Pv (i + 1) (upd H5 D (.dT (putK kvs k z))) else Pv (i + 1) H3) (hd : ∀ H, Pv n H → Qd H) :
    ∃ W : Nat → Nat → Hp → Prop, (∃ m, W 0 m (upd H1 D (.dT []))) ∧ ∀ i m H, W i m H → (J.stop i H ∧ Qd H) ∨ (J.go i H ∧ ∃ Nx : Hp → Prop, (∀ H', Nx H' → ∃ m', m' < m ∧ W (i + 1) m' H') ∧ ∀ x H', J.yld i H x H' → g x (wipe σ vs) H' fun σ2 H2 => wipe σ2 vs = wipe σ vs ∧ tt σ2 H2 fun b H3 =>
        if b = true then tk σ2 H3 fun y H4 => tv σ2 H4 fun z H5 => ∃ kvs k a, y = .ref a ∧ H5 a = some (.tup (k.map kV)) ∧ H5 D = some (.dT kvs) ∧ kvs.length < sizeLine ∧ Nx (upd H5 D (.dT (putK kvs k z))) else Nx H3) := by
  refine ⟨fun i m H => m = n - i ∧ i ≤ n ∧ Pv i H, ⟨n, by simp, Nat.zero_le _, h0⟩, ?_⟩
  rintro i m H ⟨rfl, hi, p⟩
  have q := hG i H hi p
  by_cases hlt : i < n
  · exact .inr ⟨w.goes i H hlt q, Pv (i + 1), (fun H' p' => ⟨n - (i + 1), by omega, rfl, hlt, p'⟩), fun x H' y => hs i x H H' hlt p (w.yields i H x H' hlt q y)⟩
  · obtain rfl : i = n := by omega
    exact .inl ⟨w.stops H q, hd H p⟩
/-! ## sorted pipes -/
def codeP (p : Pipe) : Int := TS.code 128 [(p.1 : Int), (p.2.1 : Int), (p.2.2.1 : Int), (p.2.2.2 : Int)]
theorem codeP_eq (p : Pipe) : codeP p = (p.1 : Int) * 2097152 + ((p.2.1 : Int) * 16384 + ((p.2.2.1 : Int) * 128 + (p.2.2.2 : Int))) := by
  show (p.1 : Int) * 128 ^ 3 + ((p.2.1 : Int) * 128 ^ 2 + ((p.2.2.1 : Int) * 128 ^ 1 + ((p.2.2.2 : Int) * 128 ^ 0 + 0))) = _
  rw [show (128 : Int) ^ 3 = 2097152 from by decide, show (128 : Int) ^ 2 = 16384 from by decide, show (128 : Int) ^ 1 = 128 from by decide, show (128 : Int) ^ 0 = 1 from by decide]
  omega
def srt (ps : List Pipe) : List Pipe := ps.mergeSort fun a b => decide (codeP a ≤ codeP b)
abbrev SmP (p : Pipe) : Prop := p.1 ≤ 100 ∧ p.2.1 ≤ 100 ∧ p.2.2.1 ≤ 100 ∧ p.2.2.2 ≤ 100
theorem codeP_inj {a b : Pipe} (ha : SmP a) (hb : SmP b) (h : codeP a = codeP b) : a = b := by
  obtain ⟨a1, a2, a3, a4⟩ := a
  obtain ⟨b1, b2, b3, b4⟩ := b
  obtain ⟨h1, h2, h3, h4⟩ := ha
  obtain ⟨g1, g2, g3, g4⟩ := hb
  rw [codeP_eq, codeP_eq] at h
  simp only at *
  have : a1 = b1 ∧ a2 = b2 ∧ a3 = b3 ∧ a4 = b4 := by omega
  obtain ⟨rfl, rfl, rfl, rfl⟩ := this
  rfl
theorem srt_perm (ps : List Pipe) : (srt ps).Perm ps := List.mergeSort_perm _ _
theorem srt_eq {ps qs : List Pipe} (hs : ∀ p ∈ ps, SmP p) (hp : qs.Perm ps) (ho : qs.Pairwise fun a b => codeP a ≤ codeP b) : qs = srt ps := by
  refine List.Perm.eq_of_pairwise (le := fun a b => codeP a ≤ codeP b) (fun a b ha hb h1 h2 => codeP_inj (hs a (hp.mem_iff.mp ha)) (hs b ((srt_perm ps).mem_iff.mp hb)) (by omega)) ho ?_ (hp.trans (srt_perm ps).symm)
  have z := List.pairwise_mergeSort (le := fun a b => decide (codeP a ≤ codeP b)) (fun a b c h1 h2 => by simp at *; omega) (fun a b => by simp; omega) ps
  exact z.imp fun h => by simpa using h
theorem paired_perm {α β : Type} {R : α → β → Prop} {xs ys : List α} (hp : ys.Perm xs) : ∀ {bs : List β}, Paired R xs bs → ∃ cs, cs.Perm bs ∧ Paired R ys cs := by
  induction hp with
  | nil => intro bs h; exact ⟨bs, List.Perm.refl _, h⟩
  | cons x _ ih =>
    intro bs h
    cases h with
    | cons r q =>
      obtain ⟨cs, h1, h2⟩ := ih q
      exact ⟨_ :: cs, h1.cons _, .cons r h2⟩
  | swap x y l =>
    intro bs h
    cases h with
    | cons r q =>
      cases q with
      | cons r2 q2 => exact ⟨_, List.Perm.swap _ _ _, .cons r2 (.cons r q2)⟩
  | trans _ _ i1 i2 =>
    intro bs h
    obtain ⟨cs, h1, h2⟩ := i2 h
    obtain ⟨ds, h3, h4⟩ := i1 h2
    exact ⟨ds, h3.trans h1, h4⟩
theorem paired_pw {α β : Type} {R : α → β → Prop} {S : α → α → Prop} {U : β → β → Prop} (h : ∀ x y a b, R x a → R y b → S x y → U a b) : ∀ {xs : List α} {bs : List β}, Paired R xs bs → xs.Pairwise S → bs.Pairwise U
  | _, _, .nil, _ => .nil
  | _, _, .cons r q, p => by
    obtain ⟨p1, p2⟩ := List.pairwise_cons.mp p
    refine List.pairwise_cons.mpr ⟨fun b hb => ?_, paired_pw h q p2⟩
    obtain ⟨i, hi⟩ := List.mem_iff_getElem?.mp hb
    obtain ⟨y, hy, ry⟩ := paired_at q hi
    exact h _ _ _ _ r ry (p1 y (List.mem_of_getElem? hy))
theorem putF_new {f : Str} {v : V} : ∀ {fs : List (Str × V)} (ns : List Str), fs.map (·.1) = ns → ns.contains f = false → putF f v fs = fs ++ [(f, v)]
  | [], _, _, _ => rfl
  | (x, y) :: r, ns, e, h => by
    subst e
    simp only [List.map_cons, List.contains_cons, Bool.or_eq_false_iff] at h
    have hx : ¬ x = f := fun z => by rw [z] at h; simp at h
    show (if x = f then _ else (x, y) :: putF f v r) = _
    rw [if_neg hx, putF_new (r.map (·.1)) rfl h.2]
    rfl
/-! ## yards -/
def yflds (a b c d e f : Addr) : List (Str × V) := [("own_stations", .ref a), ("own_pipes", .ref b), ("own_exits", .ref c), ("own_begin", .ref d), ("own_into", .ref e), ("own_onto", .ref f)]
def BgA (H : Hp) (d : Addr) (n m : Nat) : Prop := ∃ d1 d2, H d = some (.tup [.ref d1, .ref d2]) ∧ H d1 = some (.tup (List.replicate n (.int 0))) ∧ H d2 = some (.tup (List.replicate m (.str "")))
abbrev kL2 (l : Nat × Nat) : List Key := [.inl (l.1 : Int), .inl (l.2 : Int)]
theorem kL2_inj {a b : Nat × Nat} (h : kL2 a = kL2 b) : a = b := by
  obtain ⟨a1, a2⟩ := a
  obtain ⟨b1, b2⟩ := b
  simp only [kL2, List.cons.injEq, Sum.inl.injEq, and_true] at h
  rw [show a1 = b1 by omega, show a2 = b2 by omega]
def IntoA (kv : List (List Key × V)) (qs : List Pipe) : Prop := ∀ (j : Nat) (p : Pipe), qs[j]? = some p → valV kv (kL2 (pe p)) = some (.int (j : Nat))
def OntoA (H : Hp) (kv : List (List Key × V)) (qs : List Pipe) (ex : List (Nat × Nat)) : Prop := (∀ (j : Nat) (p : Pipe), qs[j]? = some p → ∃ a, valV kv (kL2 (pb p)) = some (.ref a) ∧ H a = some (.tup [.bl true, .int (j : Nat)])) ∧
  ∀ (j : Nat) (l : Nat × Nat), ex[j]? = some l → ∃ a, valV kv (kL2 l) = some (.ref a) ∧ H a = some (.tup [.bl false, .int (j : Nat)])
theorem OntoA.keep {H H' : Hp} (t : Tups H H') {kv : List (List Key × V)} {qs : List Pipe} {ex : List (Nat × Nat)} (h : OntoA H kv qs ex) : OntoA H' kv qs ex :=
  ⟨fun j p e => let ⟨a, x, y⟩ := h.1 j p e; ⟨a, x, t _ _ y⟩, fun j l e => let ⟨a, x, y⟩ := h.2 j l e; ⟨a, x, t _ _ y⟩⟩
theorem valV_none {kv : List (List Key × V)} {k : List Key} (h : ∀ e ∈ kv, e.1 ≠ k) : valV kv k = none := by
  unfold valV
  rw [List.find?_eq_none.mpr]
  · rfl
  · intro e he
    simpa using h e he
theorem valV_cons (e : List Key × V) (r : List (List Key × V)) (k : List Key) : valV (e :: r) k = if e.1 = k then some e.2 else valV r k := by
  split
  · rename_i h; exact valV_pos h
  · rename_i h; exact valV_neg h
theorem valV_fold : ∀ (more kvs : List (List Key × V)) (k : List Key), (more.map (·.1)).Nodup → valV (more.foldl (fun acc p => putK acc p.1 p.2) kvs) k = match valV more k with | some v => some v | none => valV kvs k
  | [], kvs, k, _ => rfl
  | e :: r, kvs, k, h => by
    obtain ⟨h1, h2⟩ := List.nodup_cons.mp h
    rw [List.foldl_cons, valV_fold r _ k h2, valV_cons, valV_put]
    by_cases z : e.1 = k
    · have : valV r k = none := valV_none fun x hx zz => h1 (by show e.1 ∈ _; rw [z, ← zz]; exact List.mem_map_of_mem (f := (·.1)) hx)
      rw [this, if_pos z, if_pos z.symm]
    · rw [if_neg z, if_neg (fun y => z y.symm)]
theorem valV_mem : ∀ {kv : List (List Key × V)} {k : List Key} {v : V}, (kv.map (·.1)).Nodup → (k, v) ∈ kv → valV kv k = some v
  | e :: r, k, v, h, hm => by
    obtain ⟨h1, h2⟩ := List.nodup_cons.mp h
    rw [valV_cons]
    rcases List.mem_cons.mp hm with z | z
    · rw [← z, if_pos rfl]
    · rw [if_neg (fun y => h1 (by show e.1 ∈ _; rw [y]; exact List.mem_map_of_mem (f := (·.1)) z)), valV_mem h2 z]
theorem nd_at {α β : Type} {f : α → β} {xs : List α} (h : (xs.map f).Nodup) {i j : Nat} {a b : α} (hi : xs[i]? = some a) (hj : xs[j]? = some b) (e : f a = f b) : i = j := by
  have h1 : (xs.map f)[i]? = some (f a) := by rw [List.getElem?_map, hi]; rfl
  have h2 : (xs.map f)[j]? = some (f a) := by rw [List.getElem?_map, hj, e]; rfl
  obtain ⟨l1, e1⟩ := List.getElem?_eq_some_iff.mp h1
  obtain ⟨l2, e2⟩ := List.getElem?_eq_some_iff.mp h2
  have pw := List.pairwise_iff_getElem.mp h
  rcases Nat.lt_trichotomy i j with z | z | z
  · exact absurd (e1.trans e2.symm) (pw i j l1 l2 z)
  · exact z
  · exact absurd (e2.trans e1.symm) (pw j i l2 l1 z)
/-- the exits' entries -/
def ExA (H : Hp) (kv : List (List Key × V)) (ex : List (Nat × Nat)) (i : Nat) : Prop := kv.map (·.1) = (ex.take i).map kL2 ∧ ∀ (j : Nat) (l : Nat × Nat), j < i → ex[j]? = some l → ∃ a, (kL2 l, V.ref a) ∈ kv ∧ H a = some (.tup [.bl false, .int (j : Nat)])
theorem ExA.keep {H H' : Hp} (t : Tups H H') {kv : List (List Key × V)} {ex : List (Nat × Nat)} {i : Nat} (h : ExA H kv ex i) : ExA H' kv ex i := ⟨h.1, fun j l hj e => let ⟨a, x, y⟩ := h.2 j l hj e; ⟨a, x, t _ _ y⟩⟩
theorem ExA.step {H : Hp} {kv : List (List Key × V)} {ex : List (Nat × Nat)} {i : Nat} {l : Nat × Nat} {a : Addr} (nd : ex.Nodup) (h : ExA H kv ex i) (hl : ex[i]? = some l) (ha : H a = some (.tup [.bl false, .int (i : Nat)])) : ExA H (putK kv (kL2 l) (.ref a)) ex (i + 1) := by
  have nn : valV kv (kL2 l) = none := valV_none fun e he z => by
    have hm : e.1 ∈ kv.map (·.1) := List.mem_map_of_mem he
    rw [h.1] at hm
    obtain ⟨l', hl', e'⟩ := List.mem_map.mp hm
    have : l' = l := kL2_inj (e'.trans z)
    subst this
    obtain ⟨j, hj, ej⟩ := List.mem_iff_getElem.mp hl'
    rw [List.getElem_take] at ej
    rw [List.length_take] at hj
    have hj' : ex[j]? = some l' := by rw [List.getElem?_eq_getElem (by omega), ej]
    have := nd_at (f := id) (xs := ex) (by simpa using nd) hj' hl rfl
    omega
  rw [putK_new _ nn]
  refine ⟨?_, fun j l' hj e => ?_⟩
  · rw [List.map_append, h.1, List.take_succ, hl]
    simp
  · by_cases z : j = i
    · subst z
      obtain rfl : l' = l := Option.some.inj (e.symm.trans hl)
      exact ⟨a, by simp, ha⟩
    · obtain ⟨b, x, y⟩ := h.2 j l' (by omega) e
      exact ⟨b, List.mem_append_left _ x, y⟩
theorem onto_upd {H : Hp} {kv kw : List (List Key × V)} {qs : List Pipe} {ex : List (Nat × Nat)} (nx : ex.Nodup) (dj : ∀ p ∈ qs, pb p ∉ ex) (h1 : ∀ (j : Nat) (p : Pipe), qs[j]? = some p → ∃ a, valV kv (kL2 (pb p)) = some (.ref a) ∧ H a = some (.tup [.bl true, .int (j : Nat)])) (h2 : ExA H kw ex ex.length) :
    OntoA H (kw.foldl (fun acc p => putK acc p.1 p.2) kv) qs ex := by
  have ek : kw.map (·.1) = ex.map kL2 := by rw [h2.1, List.take_length]
  have nd : (kw.map (·.1)).Nodup := by
    rw [ek]
    exact List.Pairwise.map _ (fun a b h e => h (kL2_inj e)) nx
  refine ⟨fun j p e => ?_, fun j l e => ?_⟩
  · obtain ⟨a, x, y⟩ := h1 j p e
    have : valV kw (kL2 (pb p)) = none := valV_none fun z hz zz => by
      have hm : z.1 ∈ kw.map (·.1) := List.mem_map_of_mem hz
      rw [ek] at hm
      obtain ⟨l', hl', e'⟩ := List.mem_map.mp hm
      exact dj p (List.mem_of_getElem? e) (by rw [← kL2_inj (e'.trans zz)]; exact hl')
    exact ⟨a, by rw [valV_fold _ _ _ nd, this]; exact x, y⟩
  · obtain ⟨a, x, y⟩ := h2.2 j l (List.getElem?_eq_some_iff.mp e).1 e
    exact ⟨a, by rw [valV_fold _ _ _ nd, valV_mem nd x], y⟩
structure YdA (CY C : Addr) (H : Hp) (y : Addr) (ts : List Stn) (ps : List Pipe) : Prop where
  ob : ∃ dx a b c d e f, H y = some (.ins CY dx (yflds a b c d e f)) ∧ (∃ us, H a = some (.tup us) ∧ Paired (StnA C H) us ts) ∧ (∃ ws, H b = some (.tup ws) ∧ Paired (PipeA H) ws (srt ps)) ∧ (∃ es, H c = some (.tup es) ∧ Paired (PrA H) es (exitsOf ts ps)) ∧ BgA H d ts.length ps.length
  dc : ∃ dx a b c d e f kv kw, H y = some (.ins CY dx (yflds a b c d e f)) ∧ H e = some (.dT kv) ∧ IntoA kv (srt ps) ∧ H f = some (.dT kw) ∧ OntoA H kw (srt ps) (exitsOf ts ps)
structure YdOk (ts : List Stn) (ps : List Pipe) : Prop where
  m1 : 1 ≤ ts.length
  m2 : ts.length ≤ 12
  hd : ∀ t, ts.head? = some t → t.ins = 1
  ok : ∀ t ∈ ts, t.ok
  pp : ∀ p ∈ ps, PpOk ts p
  nb : (ps.map pb).Nodup
  ne : (ps.map pe).Nodup
  sm : sumIns ts ≤ ps.length + 1
  mp : ps.length < 64
  ex : (exitsOf ts ps).length ≤ 3
  ap : ps ≠ [] ∨ (exitsOf ts ps).length ≤ 1
structure YdF (K : PySem.W.Frag) (CY : Addr) : Prop where
  cl : Cls K CY
  nS : NoAttr K CY "own_stations"
  nP : NoAttr K CY "own_pipes"
  nX : NoAttr K CY "own_exits"
  nB : NoAttr K CY "own_begin"
  nI : NoAttr K CY "own_into"
  nO : NoAttr K CY "own_onto"
  me : ∃ u, Con K CY "MOST_EXITS" (.int 3) u
def spYdInit (CY C : Addr) : Sp := fun vs H Q _ => ∃ (y dx L M : Addr) (us ws : List V) (ts : List Stn) (ps : List Pipe), vs = [.ref y, .ref L, .ref M, .non] ∧ H y = some (.ins CY dx []) ∧ H L = some (.lst us) ∧ Paired (StnA C H) us ts ∧ H M = some (.lst ws) ∧ Paired (PipeA H) ws ps ∧ YdOk ts ps ∧
  ∀ H', But y H H' → YdA CY C H' y ts ps → Q .non H'
theorem StnA.but {y CY C dx : Addr} {H H' : Hp} (k : But y H H') (hy : H y = some (.ins CY dx [])) {v : V} {t : Stn} (h : StnA C H v t) : StnA C H' v t := by
  obtain ⟨a, da, p, ps, e, h1, h2, pr⟩ := h
  have tu := k.tups hy
  refine ⟨a, da, p, ps, e, k a _ (fun z => ?_) h1, tu _ _ h2, sgA_all tu pr⟩
  rw [z, hy] at h1
  cases h1
theorem stn_but {y CY C dx : Addr} {H H' : Hp} (k : But y H H') (hy : H y = some (.ins CY dx [])) : ∀ {vs : List V} {ts : List Stn}, Paired (StnA C H) vs ts → Paired (StnA C H') vs ts
  | _, _, .nil => .nil
  | _, _, .cons r q => .cons (r.but k hy) (stn_but k hy q)
theorem But.trans {y : Addr} {H H1 H2 : Hp} (a : But y H H1) (b : But y H1 H2) : But y H H2 := fun c o n e => b c o n (a c o n e)
theorem But.of {y : Addr} {H H1 : Hp} (a : Same H H1) : But y H H1 := fun c o _ e => a c o e
theorem But.at {y : Addr} {H : Hp} {o : HO} : But y H (upd H y o) := fun c u n e => by rw [upd_ne n]; exact e
theorem putK_ne {κ : Type} [DecidableEq κ] (kvs : List (κ × V)) (k : κ) (v : V) : putK kvs k v ≠ [] := by
  unfold putK
  split
  · rename_i h
    intro z
    rw [List.map_eq_nil_iff] at z
    subst z
    simp at h
  · simp
theorem repA_of {K : PySem.W.Frag} {H : Hp} {d : Addr} {x : V} {k : Nat} {Q : VK} (hd : H d = some (.tup [x])) (hk : k ≤ 1000) (q : ∀ H' p, Same H H' → H' p = some (.tup (List.replicate k x)) → Q (.ref p) H') : rRepA K (.ref d) (.int (k : Nat)) H Q := by
  refine ⟨d, k, [x], rfl, rfl, SqT.of hd, by simp, hk, (by decide : 1 ≤ 1000), fun e => ?_, fun _ p hp => ?_⟩
  · subst e
    exact q H d (Same.refl _) hd
  · have e : (List.replicate k [x]).flatten = List.replicate k x := by
      clear q hk
      induction k with
      | zero => rfl
      | succ k ih => simp [List.replicate_succ, ih]
    rw [e]
    exact q _ p (same_new hp _) upd_same
theorem okD0 {P : Program} {w : World} {K : PySem.W.Frag} {mg : Str → Option Value} {base : Heap} {x qual : Str} {params : Arguments} {body : List Stmt} {scope : Scope} {dvs : List V} {kws : List (Str × V)} {f : Addr} {fd : FuncData} {N ps : List Str} {k : Nat} {sp : Sp} (F : FunD K x qual params body scope dvs kws f fd) (S : FnScope N ps scope) (len : ∀ vs H Q E, sp vs H Q E → vs.length = ps.length)
    (hbody : ∀ (cdv : Value) (A : Around) (outer : List Env) (s : Shared) (H : Hp) (vs : List V) (Q : VK) (E : XK), Room k (A.deeper (PyProof.Rows.envOfC qual scope s.heap.objs.size f cdv)) → sp vs H Q E →
      ∃ t, PSs (cxOf CX0 P w K mg base N qual scope f cdv A outer s H E).nox body t ∧ t { nx := fun _ H' => Q .non H', rt := Q } (start N vs) H) : FnOk P w K mg base CX0 (k + 1) f fd ps sp :=
  F.ok S len fun cdv A outer s H vs Q E hr h => by
    obtain ⟨t, h, q⟩ := hbody cdv A outer s H vs Q E hr h
    exact ⟨t, h.nox, q⟩
def spNever : Sp := fun vs _ _ _ => vs.length = 2 ∧ False
section
variable {P : Program} {w : World} {K : PySem.W.Frag} {mg : Str → Option Value} {base : Heap} {aS a1 a2 aL aT : Addr} {f : Addr} {fd : FuncData} {C CD CY : Addr} {mc : Value}
abbrev s_Yard___init__ : Stmt := inClass (top 47) 2
abbrev N_Yard___init__ : List Str := ["self", "stations", "pipes", "begin", "place", "pipe", "number", "line"]
theorem sc_Yard___init__ : FnScope N_Yard___init__ ["self", "stations", "pipes", "begin"] (defScope s_Yard___init__) := ⟨rfl, rfl, rfl, by decide +kernel, rfl, by decide +kernel, by decide +kernel⟩
theorem ok_Yard_init (F : FunD K "__init__" "Yard.__init__" (defArgs s_Yard___init__) (defBody s_Yard___init__) (defScope s_Yard___init__) [.non] [] f fd) (T : Txt K mg aS a1 a2) (Y : YdF K CY) (c_want_stations : C8.Cal P w K mg base 2 "want_stations" (spWantSt C) []) (c_want_pipes : C8.Cal P w K mg base 5 "want_pipes" (spWantPp C) []) (c_free_lines : C8.Cal P w K mg base 1 "free_lines" (spFree C) []) (c_is_begin : C8.Cal P w K mg base 1 "is_begin" spNever []) : FnOk P w K mg base CX0 6 f fd ["self", "stations", "pipes", "begin"] (spYdInit CY C) := by
  refine okD0 F sc_Yard___init__ (fun vs H Q E h => ?_) (fun cdv A outer s H vs Q E hr h => ?_)
  · obtain ⟨y, dx, L, M, us, ws, ts, ps, rfl, _⟩ := h
    rfl
  obtain ⟨y, dx, L, M, us, ws, ts, ps, rfl, hy, hL, pr, hM, pp, ok, q⟩ := h
  have lt := paired_len pr
  have lp := paired_len pp
  have m1 := ok.m1
  have m2 := ok.m2
  have mp := ok.mp
  refine ⟨_, (pss_cons (ps_expr (C8.pe_c c_want_stations hr (by decide) rfl (pa_cons (pv 1) pa_nil)))
        (pss_cons (ps_expr (C8.pe_c c_want_pipes hr (by decide) rfl (pa_cons (pv 1) (pa_cons (pv 2) pa_nil))))
        (pss_cons (kSetF K rfl (pv 0) (pe_callTy (kTupOf K rfl) rfl T.b_tuple bt_tuple (pa_cons (pv 1) pa_nil)))
        (pss_cons (kSetF K rfl (pv 0) (pe_callTy (kTupOf K rfl) rfl T.b_tuple bt_tuple (pa_cons (pe_callB (kSortT K (d := 4) (B := 128) rfl (by decide)) rfl T.b_sorted bt_sorted (pa_cons (pv 2) pa_nil)) pa_nil)))
        (pss_cons (kSetF K rfl (pv 0) (C8.pe_c c_free_lines hr (by decide) rfl (pa_cons (pv 1) (pa_cons (pv 2) pa_nil))))
        (pss_cons (ps_if (PW.pt (pw_and (pt_cmp (pc_notN (pv 3))) (pw_and1 (pt_not (pt_val (C8.pe_c c_is_begin hr (by decide) rfl (pa_cons (pv 0) (pa_cons (pv 3) pa_nil))))))))
        (pss_one ps_never)
        pss_nil)
        (pss_cons (ps_if (pt_cmpR op_gt (pe_callB (kLen K rfl) rfl T.b_len bt_len (pa_cons (kFld K rfl (pv 0)) pa_nil)) (kCon K rfl (pv 0)) (nomark _))
        (pss_one ps_never)
        pss_nil)
        (pss_cons (kSetF K rfl (pv 0) (pe_ifExp (pt_cmp (pc_notN (pv 3))) (pv 3) (pe_tup (pa_cons (pe_op (kRepA K rfl) (pe_tup (pa_cons pe_int pa_nil)) (pe_callB (kLen K rfl) rfl T.b_len bt_len (pa_cons (kFld K rfl (pv 0)) pa_nil))) (pa_cons (pe_op (kRepA K rfl) (pe_tup (pa_cons pe_str pa_nil)) (pe_callB (kLen K rfl) rfl T.b_len bt_len (pa_cons (kFld K rfl (pv 0)) pa_nil))) pa_nil)))))
        (pss_cons (kSetF K rfl (pv 0) (pe_dcT (own := [("place", 4), ("pipe", 5)]) rfl sc_Yard___init__.nd hr.units0 (pi_enumT K rfl rfl T.b_enumerate (pa_cons (kFld K rfl (pv 0)) pa_nil)) (blkOk_by (N := N_Yard___init__) (sc := defScope s_Yard___init__) (by decide +kernel)) (fun _ _ _ _ _ => (kTupG (n := 2) K rfl rfl (pgs_cons (pg_name (i := 4) sc_Yard___init__.nd rfl (Or.inl rfl)) (pgs_cons (pg_name (i := 5) sc_Yard___init__.nd rfl (Or.inl rfl)) pgs_nil)))) (fun _ _ _ _ _ => pts_nil) (fun _ _ _ _ _ => (pe_slice (kSlT K rfl) (pv 5) (po_some pe_int) po_none)) (fun _ _ _ _ _ => (pv 4))))
        (pss_cons (kSetF K rfl (pv 0) (pe_dcT (own := [("place", 4), ("pipe", 5)]) rfl sc_Yard___init__.nd hr.units0 (pi_enumT K rfl rfl T.b_enumerate (pa_cons (kFld K rfl (pv 0)) pa_nil)) (blkOk_by (N := N_Yard___init__) (sc := defScope s_Yard___init__) (by decide +kernel)) (fun _ _ _ _ _ => (kTupG (n := 2) K rfl rfl (pgs_cons (pg_name (i := 4) sc_Yard___init__.nd rfl (Or.inl rfl)) (pgs_cons (pg_name (i := 5) sc_Yard___init__.nd rfl (Or.inl rfl)) pgs_nil)))) (fun _ _ _ _ _ => pts_nil) (fun _ _ _ _ _ => (pe_slice (kSlT K rfl) (pv 5) po_none (po_some pe_int))) (fun _ _ _ _ _ => (pe_tup (pa_cons pe_bl (pa_cons (pv 4) pa_nil))))))
        (pss_one (ps_expr (kBm K rfl PySem.F.plainAttrs_dict PySem.F.slot_dict_update PySem.F.type_dict_update (mt_updT (hu1 hr)) (kFld K rfl (pv 0)) (pa_cons (pe_dcT (own := [("number", 6), ("line", 7)]) rfl sc_Yard___init__.nd hr.units0 (pi_enumT K rfl rfl T.b_enumerate (pa_cons (kFld K rfl (pv 0)) pa_nil)) (blkOk_by (N := N_Yard___init__) (sc := defScope s_Yard___init__) (by decide +kernel)) (fun _ _ _ _ _ => (kTupG (n := 2) K rfl rfl (pgs_cons (pg_name (i := 6) sc_Yard___init__.nd rfl (Or.inl rfl)) (pgs_cons (pg_name (i := 7) sc_Yard___init__.nd rfl (Or.inl rfl)) pgs_nil)))) (fun _ _ _ _ _ => pts_nil) (fun _ _ _ _ _ => (pv 7)) (fun _ _ _ _ _ => (pe_tup (pa_cons pe_bl (pa_cons (pv 6) pa_nil))))) pa_nil)))))))))))))), ?_⟩
  refine ⟨_, rfl, L, us, ts, rfl, hL, pr, m1, m2, ok.hd, fun H1 s1 => ?_⟩
  refine ⟨_, rfl, _, rfl, L, M, us, ws, ts, ps, rfl, s1 _ _ hL, stn_all (NL.of s1) pr, s1 _ _ hM, pipe_all (Tups.of s1) pp, ok.pp, ok.nb, ok.ne, ok.sm, by omega, by omega, fun H2 s2 => ?_⟩
  have s12 := s1.trans' s2
  -- own_stations
  refine ⟨_, rfl, _, _, rfl, .inl ⟨SqL.of (s12 _ _ hL), fun p1 hp1 => ?_⟩⟩
  have k1 := same_new hp1 (.tup us)
  have hy1 := k1 _ _ (s12 _ _ hy)
  refine ⟨_, rfl, y, CY, dx, _, rfl, hy1, Y.cl, Y.nS, by decide, ?_⟩
  rw [putF_new [] rfl rfl]
  obtain ⟨H3, hH3⟩ : ∃ H3, H3 = upd (upd H2 p1 (.tup us)) y (.ins CY dx ([] ++ [(("own_stations" : Str), V.ref p1)])) := ⟨_, rfl⟩
  have b3 : But y H H3 := by rw [hH3]; exact (But.of (s12.trans' k1)).trans But.at
  have hy3 : H3 y = some (.ins CY dx [("own_stations", .ref p1)]) := by rw [hH3, upd_same]; rfl
  have hp13 : H3 p1 = some (.tup us) := by rw [hH3, upd_ne (Ne.symm (ne_of_none (s12 _ _ hy) hp1))]; exact upd_same
  rw [← hH3]
  clear hH3
  have t3 := b3.tups hy
  -- own_pipes
  refine ⟨_, rfl, M, ws, rfl, SqL.of (b3.lst hy hM), by omega, fun x hx => ?_, fun zs p2 pz sz2 hp2 => ?_⟩
  · obtain ⟨i, hi⟩ := List.mem_iff_getElem?.mp hx
    obtain ⟨pi, hpi, tp, rfl, htp⟩ := paired_get pp hi
    have sm := ppok_le (ok.pp pi (List.mem_of_getElem? hpi)) (by omega)
    refine ⟨[(pi.1 : Int), (pi.2.1 : Int), (pi.2.2.1 : Int), (pi.2.2.2 : Int)], ⟨tp, rfl, SqT.of (t3 _ _ htp)⟩, rfl, fun m hm => ?_⟩
    simp only [List.mem_cons, List.not_mem_nil, or_false] at hm
    rcases hm with rfl | rfl | rfl | rfl <;> omega
  have pp3 := pipe_all t3 pp
  obtain ⟨qs, pq, pz3⟩ := paired_perm pz pp3
  have eq : qs = srt ps := srt_eq (fun p hp => ppok_le (ok.pp p hp) (by omega)) pq (paired_pw (fun x y a b ra rb sxy => by
    obtain ⟨ta, rfl, hta⟩ := ra
    obtain ⟨tb, rfl, htb⟩ := rb
    exact sxy [(a.1 : Int), (a.2.1 : Int), (a.2.2.1 : Int), (a.2.2.2 : Int)] [(b.1 : Int), (b.2.1 : Int), (b.2.2.1 : Int), (b.2.2.2 : Int)] ⟨ta, rfl, SqT.of hta⟩ ⟨tb, rfl, SqT.of htb⟩) pz3 sz2)
  subst eq
  have k2 := same_new hp2 (.lst zs)
  refine ⟨_, _, rfl, .inl ⟨SqL.of upd_same, fun p3 hp3 => ?_⟩⟩
  have k3 := same_new hp3 (.tup zs)
  have k23 := k2.trans' k3
  refine ⟨_, rfl, y, CY, dx, _, rfl, k23 _ _ hy3, Y.cl, Y.nP, Nat.lt_of_lt_of_le (Nat.lt_succ_self 1) (by decide : 2 ≤ 1000), ?_⟩
  rw [putF_new ["own_stations"] rfl (by decide +kernel)]
  obtain ⟨H4, hH4⟩ : ∃ H4, H4 = upd (upd (upd H3 p2 (.lst zs)) p3 (.tup zs)) y (.ins CY dx ([(("own_stations" : Str), V.ref p1)] ++ [(("own_pipes" : Str), V.ref p3)])) := ⟨_, rfl⟩
  have b34 : But y H3 H4 := by rw [hH4]; exact (But.of k23).trans But.at
  have b4 : But y H H4 := b3.trans b34
  have hy4 : H4 y = some (.ins CY dx [("own_stations", .ref p1), ("own_pipes", .ref p3)]) := by rw [hH4, upd_same]; rfl
  have hp34 : H4 p3 = some (.tup zs) := by rw [hH4, upd_ne (Ne.symm (ne_of_none (k2 _ _ hy3) hp3))]; exact upd_same
  have ny1 : p1 ≠ y := fun z => by rw [z, hy3] at hp13; cases hp13
  have hp14 : H4 p1 = some (.tup us) := b34 _ _ ny1 hp13
  rw [← hH4]
  clear hH4
  have t34 := b34.tups hy3
  have pz4 := pipe_all t34 pz3
  -- own_exits
  have o2 : ∀ t ∈ ts, t.outs ≤ 2 := fun t ht => (ok.ok t ht).o2
  refine ⟨_, rfl, _, rfl, L, M, us, ws, ts, ps, rfl, b4.lst hy hL, stn_but b4 hy pr, b4.lst hy hM, pipe_all (b4.tups hy) pp, ok.pp, o2, by omega, by omega, fun H5 c es s5 hc pe5 => ?_⟩
  refine ⟨_, rfl, y, CY, dx, _, rfl, s5 _ _ hy4, Y.cl, Y.nX, Nat.lt_of_lt_of_le (Nat.lt_succ_self 2) (by decide : 3 ≤ 1000), ?_⟩
  rw [putF_new ["own_stations", "own_pipes"] rfl (by decide +kernel)]
  obtain ⟨H6, hH6⟩ : ∃ H6, H6 = upd H5 y (.ins CY dx ([(("own_stations" : Str), V.ref p1), (("own_pipes" : Str), V.ref p3)] ++ [(("own_exits" : Str), V.ref c)])) := ⟨_, rfl⟩
  have b56 : But y H5 H6 := by rw [hH6]; exact But.at
  have b46 : But y H4 H6 := (But.of s5).trans b56
  have b6 : But y H H6 := b4.trans b46
  have hy6 : H6 y = some (.ins CY dx [("own_stations", .ref p1), ("own_pipes", .ref p3), ("own_exits", .ref c)]) := by rw [hH6, upd_same]; rfl
  rw [← hH6]
  clear hH6
  have t56 := b56.tups (s5 _ _ hy4)
  have hc6 := t56 _ _ hc
  have pe6 := pr_all t56 pe5
  have le6 := paired_len pe6
  have hex := ok.ex
  -- begin is not None and ..
  refine ⟨_, rfl, _, rfl, iteFd (by decide +kernel) (iteF ?_)⟩
  obtain ⟨u3, hu3⟩ := Y.me
  refine ⟨_, rfl, y, CY, dx, _, _, rfl, hy6, Y.cl, Y.nX, rfl, _, _, rfl, .inr (SqT.of hc6), _, rfl, y, CY, dx, _, _, u3, rfl, hy6, Y.cl, hu3, rfl, _, _, rfl, rfl, _, rfl, iteFd (by simp; omega) ?_⟩
  -- own_begin
  have hp16 := b46 _ _ ny1 hp14
  have ny3 : p3 ≠ y := fun z => by rw [z, hy4] at hp34; cases hp34
  have hp36 := b46 _ _ ny3 hp34
  have pz6 := pipe_all (b46.tups hy4) pz4
  have lz := paired_len pz6
  have lsrt : (srt ps).length = ps.length := (srt_perm ps).length_eq
  refine ⟨_, rfl, _, rfl, iteFd (by decide +kernel) ?_⟩
  refine ⟨sz rfl, fun d0 hd0 => ?_⟩
  have k7 := same_new hd0 (.tup [.int 0])
  refine ⟨_, rfl, y, CY, dx, _, _, rfl, k7 _ _ hy6, Y.cl, Y.nS, rfl, _, _, rfl, .inr (SqT.of (k7 _ _ hp16)), ?_⟩
  refine repA_of upd_same (by omega) fun H8 d1 s8 hd1 => ?_
  refine ⟨sz rfl, fun d3 hd3 => ?_⟩
  have k9 := same_new hd3 (.tup [.str ""])
  have s69 := (k7.trans' s8).trans' k9
  refine ⟨_, rfl, y, CY, dx, _, _, rfl, s69 _ _ hy6, Y.cl, Y.nP, rfl, _, _, rfl, .inr (SqT.of (s69 _ _ hp36)), ?_⟩
  refine repA_of upd_same (by omega) fun H10 d2 s10 hd2 => ?_
  refine ⟨sz rfl, fun d hd => ?_⟩
  have k11 := same_new hd (.tup [.ref d1, .ref d2])
  have s611 := (s69.trans' s10).trans' k11
  refine ⟨_, rfl, y, CY, dx, _, rfl, s611 _ _ hy6, Y.cl, Y.nB, Nat.lt_of_lt_of_le (Nat.lt_succ_self 3) (by decide : 4 ≤ 1000), ?_⟩
  rw [putF_new ["own_stations", "own_pipes", "own_exits"] rfl (by decide +kernel)]
  obtain ⟨H12, hH12⟩ : ∃ H12, H12 = upd (upd H10 d (.tup [.ref d1, .ref d2])) y (.ins CY dx ([(("own_stations" : Str), V.ref p1), (("own_pipes" : Str), V.ref p3), (("own_exits" : Str), V.ref c)] ++ [(("own_begin" : Str), V.ref d)])) := ⟨_, rfl⟩
  have b1112 : But y (upd H10 d (.tup [.ref d1, .ref d2])) H12 := by rw [hH12]; exact But.at
  have b612 : But y H6 H12 := (But.of s611).trans b1112
  have hy12 : H12 y = some (.ins CY dx [("own_stations", .ref p1), ("own_pipes", .ref p3), ("own_exits", .ref c), ("own_begin", .ref d)]) := by rw [hH12, upd_same]; rfl
  have t1112 := b1112.tups (s611 _ _ hy6)
  have bg : BgA H12 d ts.length ps.length := ⟨d1, d2, t1112 _ _ upd_same, by rw [← lt]; exact t1112 _ _ (k11 _ _ (s10 _ _ (k9 _ _ hd1))), by rw [← lsrt, ← lz]; exact t1112 _ _ (k11 _ _ hd2)⟩
  rw [← hH12]
  clear hH12
  have b12 := b6.trans b612
  have t612 := b612.tups hy6
  -- own_into
  have nes : ((srt ps).map pe).Nodup := ((srt_perm ps).map pe).symm.nodup ok.ne
  have nbs : ((srt ps).map pb).Nodup := ((srt_perm ps).map pb).symm.nodup ok.nb
  have hp312 := t612 _ _ hp36
  have pz12 := pipe_all t612 pz6
  have hc12 := t612 _ _ hc6
  have pe12 := pr_all t612 pe6
  refine ⟨_, rfl, y, CY, dx, _, _, rfl, hy12, Y.cl, Y.nP, rfl, _, _, rfl, SqT.of hp312, fun D hD => dcT_it walk_enumT (fun i H' => Same H12 H' ∧ ∃ kvs, H' D = some (.dT kvs) ∧ kvs.length ≤ i ∧ ∀ (j : Nat) (p : Pipe), j < i → (srt ps)[j]? = some p → valV kvs (kL2 (pe p)) = some (.int (j : Nat))) ⟨same_new hD _, [], upd_same, Nat.le_refl 0, fun j p hj _ => absurd hj (Nat.not_lt_zero _)⟩ (fun i H' _ z => SqT.of (z.1 _ _ hp312)) ?_ ?_⟩
  · rintro i x G1 G2 hi ⟨sm, kvs, hk, lk, ik⟩ ⟨T0, i1, i2, rfl, hT0, rfl, hi1, hi2⟩
    obtain ⟨pi, hpi, tp, rfl, htp⟩ := paired_get pz12 hi2
    have k0 := same_new hT0 (.tup [i1, .ref tp])
    have hil := lt_len hpi
    refine ⟨_, _, rfl, SqT.of upd_same, rfl, _, _, rfl, _, _, rfl, rfl, rfl, tyI ⟨_, rfl, _, rfl, _, _, rfl, SqT.of (k0 _ _ (sm _ _ htp)), nw2, fun q1 hq1 => ⟨_, rfl, ?_⟩⟩⟩
    have k1 := same_new hq1 (.tup [.int pi.2.2.1, .int pi.2.2.2])
    refine ⟨kvs, [.inl (pi.2.2.1 : Int), .inl (pi.2.2.2 : Int)], q1, rfl, upd_same, k1 _ _ (k0 _ _ hk), ?_, same_at ((sm.trans' k0).trans' k1) hD, _, upd_same, ?_⟩
    · exact Nat.lt_of_lt_of_le (show kvs.length < 100000 by omega) (by decide)
    · refine ⟨Nat.le_trans (length_putK _ _ _) (Nat.succ_le_succ lk), fun j p hj ej => ?_⟩
      rw [valV_put]
      by_cases z : j = i
      · subst z
        obtain rfl : p = pi := Option.some.inj (ej.symm.trans hpi)
        rw [if_pos (by rfl)]
        exact hi1.symm
      · rw [if_neg (show ¬ kL2 (pe p) = [.inl (pi.2.2.1 : Int), .inl (pi.2.2.2 : Int)] from fun y => z (nd_at nes ej hpi (kL2_inj (b := pe pi) y)))]
        exact ik j p (by omega) ej
  rintro H13 ⟨s13, kvs1, hk1, _, ik1⟩
  refine ⟨_, rfl, y, CY, dx, _, rfl, s13 _ _ hy12, Y.cl, Y.nI, Nat.lt_of_lt_of_le (Nat.lt_succ_self 4) (by decide : 5 ≤ 1000), ?_⟩
  rw [putF_new ["own_stations", "own_pipes", "own_exits", "own_begin"] rfl (by decide +kernel)]
  obtain ⟨H14, hH14⟩ : ∃ H14, H14 = upd H13 y (.ins CY dx ([(("own_stations" : Str), V.ref p1), (("own_pipes" : Str), V.ref p3), (("own_exits" : Str), V.ref c), (("own_begin" : Str), V.ref d)] ++ [(("own_into" : Str), V.ref D)])) := ⟨_, rfl⟩
  have b1214 : But y H12 H14 := by rw [hH14]; exact (But.of s13).trans But.at
  have nyD : D ≠ y := (ne_of_none hy12 hD).symm
  have hk14 : H14 D = some (.dT kvs1) := by rw [hH14, upd_ne nyD]; exact hk1
  have hy14 : H14 y = some (.ins CY dx [("own_stations", .ref p1), ("own_pipes", .ref p3), ("own_exits", .ref c), ("own_begin", .ref d), ("own_into", .ref D)]) := by rw [hH14, upd_same]; rfl
  rw [← hH14]
  clear hH14
  have t1214 := b1214.tups hy12
  have hp314 := t1214 _ _ hp312
  have pz14 := pipe_all t1214 pz12
  -- own_onto
  refine ⟨_, rfl, y, CY, dx, _, _, rfl, hy14, Y.cl, Y.nP, rfl, _, _, rfl, SqT.of hp314, fun D2 hD2 => dcT_it walk_enumT (fun i H' => Same H14 H' ∧ ∃ kvs, H' D2 = some (.dT kvs) ∧ kvs.length ≤ i ∧ (i ≠ 0 → kvs ≠ []) ∧ ∀ (j : Nat) (p : Pipe), j < i → (srt ps)[j]? = some p → ∃ a, valV kvs (kL2 (pb p)) = some (.ref a) ∧ H' a = some (.tup [.bl true, .int (j : Nat)])) ⟨same_new hD2 _, [], upd_same, Nat.le_refl 0, fun z => absurd rfl z, fun j p hj _ => absurd hj (Nat.not_lt_zero _)⟩ (fun i H' _ z => SqT.of (z.1 _ _ hp314)) ?_ ?_⟩
  · rintro i x G1 G2 hi ⟨sm, kvs, hk, lk, _, ok2⟩ ⟨T0, i1, i2, rfl, hT0, rfl, hi1, hi2⟩
    obtain ⟨pi, hpi, tp, rfl, htp⟩ := paired_get pz14 hi2
    have k0 := same_new hT0 (.tup [i1, .ref tp])
    have hil := lt_len hpi
    refine ⟨_, _, rfl, SqT.of upd_same, rfl, _, _, rfl, _, _, rfl, rfl, rfl, tyI ⟨_, rfl, _, rfl, _, _, rfl, SqT.of (k0 _ _ (sm _ _ htp)), nwe, fun q1 hq1 => ⟨_, rfl, sz rfl, fun q2 hq2 => ?_⟩⟩⟩
    have k1 := same_new hq1 (.tup [.int pi.1, .int pi.2.1])
    have k2' := same_new hq2 (.tup [.bl true, i1])
    refine ⟨kvs, [.inl (pi.1 : Int), .inl (pi.2.1 : Int)], q1, rfl, k2' _ _ upd_same, k2' _ _ (k1 _ _ (k0 _ _ hk)), ?_, same_at (((sm.trans' k0).trans' k1).trans' k2') hD2, _, upd_same, ?_, fun _ => putK_ne _ _ _, fun j p hj ej => ?_⟩
    · exact Nat.lt_of_lt_of_le (show kvs.length < 100000 by omega) (by decide)
    · exact Nat.le_trans (length_putK _ _ _) (Nat.succ_le_succ lk)
    · rw [valV_put]
      have nk : ∀ b xs, G1 b = some (.tup xs) → upd (upd (upd (upd G1 T0 (.tup [i1, .ref tp])) q1 (.tup [.int pi.1, .int pi.2.1])) q2 (.tup [.bl true, i1])) D2 (.dT (putK kvs [.inl (pi.1 : Int), .inl (pi.2.1 : Int)] (.ref q2))) b = some (.tup xs) := fun b xs e => by
        rw [upd_ne (fun z => by rw [z, hk] at e; cases e)]
        exact k2' _ _ (k1 _ _ (k0 _ _ e))
      by_cases z : j = i
      · subst z
        obtain rfl : p = pi := Option.some.inj (ej.symm.trans hpi)
        rw [if_pos (by rfl)]
        refine ⟨q2, rfl, ?_⟩
        rw [upd_ne (ne_of_none (k1 _ _ (k0 _ _ hk)) hq2).symm, upd_same]
        exact congrArg (fun z => some (HO.tup [.bl true, z])) (Option.some.inj hi1).symm
      · rw [if_neg (show ¬ kL2 (pb p) = [.inl (pi.1 : Int), .inl (pi.2.1 : Int)] from fun y => z (nd_at nbs ej hpi (kL2_inj (b := pb pi) y)))]
        obtain ⟨a, x, y⟩ := ok2 j p (by omega) ej
        exact ⟨a, x, nk _ _ y⟩
  rintro H15 ⟨s15, kvs2, hk2, lk2, nk2, on2⟩
  refine ⟨_, rfl, y, CY, dx, _, rfl, s15 _ _ hy14, Y.cl, Y.nO, Nat.lt_of_lt_of_le (Nat.lt_succ_self 5) (by decide : 6 ≤ 1000), ?_⟩
  rw [putF_new ["own_stations", "own_pipes", "own_exits", "own_begin", "own_into"] rfl (by decide +kernel)]
  obtain ⟨H16, hH16⟩ : ∃ H16, H16 = upd H15 y (.ins CY dx ([(("own_stations" : Str), V.ref p1), (("own_pipes" : Str), V.ref p3), (("own_exits" : Str), V.ref c), (("own_begin" : Str), V.ref d), (("own_into" : Str), V.ref D)] ++ [(("own_onto" : Str), V.ref D2)])) := ⟨_, rfl⟩
  have b1516 : But y H15 H16 := by rw [hH16]; exact But.at
  have b1416 : But y H14 H16 := (But.of s15).trans b1516
  have hy16 : H16 y = some (.ins CY dx (yflds p1 p3 c d D D2)) := by rw [hH16, upd_same]; rfl
  have ny2 : D2 ≠ y := fun z => by rw [z, hy14] at hD2; cases hD2
  have hk16 : H16 D2 = some (.dT kvs2) := b1516 _ _ ny2 hk2
  rw [← hH16]
  clear hH16
  have t1416 := b1416.tups hy14
  have hc16 := t1416 _ _ (t1214 _ _ hc12)
  have pe16 := pr_all t1416 (pr_all t1214 pe12)
  -- own_onto.update(..)
  have nex : (exitsOf ts ps).Nodup := (lines_nodup 0 ts).filter _
  refine ⟨_, rfl, y, CY, dx, _, _, rfl, hy16, Y.cl, Y.nO, rfl, .inr (.inr (.inl ⟨rfl, .inr ⟨_, hk16⟩⟩)), _, rfl, y, CY, dx, _, _, rfl, hy16, Y.cl, Y.nX, rfl, _, _, rfl, SqT.of hc16, fun D3 hD3 => dcT_it walk_enumT (fun i H' => Same H16 H' ∧ ∃ kvs, H' D3 = some (.dT kvs) ∧ kvs.length ≤ i ∧ ExA H' kvs (exitsOf ts ps) i) ⟨same_new hD3 _, [], upd_same, Nat.le_refl 0, by simp, fun j l hj _ => absurd hj (Nat.not_lt_zero _)⟩ (fun i H' _ z => SqT.of (z.1 _ _ hc16)) ?_ ?_⟩
  · rintro i x G1 G2 hi ⟨sm, kvs, hk, lk, xk⟩ ⟨T0, i1, i2, rfl, hT0, rfl, hi1, hi2⟩
    obtain ⟨l, hl, tp, rfl, htp⟩ := paired_get pe16 hi2
    have k0 := same_new hT0 (.tup [i1, .ref tp])
    have hil := lt_len hl
    refine ⟨_, _, rfl, SqT.of upd_same, rfl, _, _, rfl, _, _, rfl, rfl, rfl, tyI ⟨_, rfl, _, rfl, sz rfl, fun q2 hq2 => ?_⟩⟩
    have k2' := same_new hq2 (.tup [.bl false, i1])
    refine ⟨kvs, [.inl (l.1 : Int), .inl (l.2 : Int)], tp, rfl, k2' _ _ (k0 _ _ (sm _ _ htp)), k2' _ _ (k0 _ _ hk), ?_, same_at ((sm.trans' k0).trans' k2') hD3, _, upd_same, ?_⟩
    · exact Nat.lt_of_lt_of_le (show kvs.length < 100000 by omega) (by decide)
    · refine ⟨Nat.le_trans (length_putK _ _ _) (Nat.succ_le_succ lk), ?_⟩
      have nk : Tups G1 (upd (upd (upd G1 T0 (.tup [i1, .ref tp])) q2 (.tup [.bl false, i1])) D3 (.dT (putK kvs [.inl (l.1 : Int), .inl (l.2 : Int)] (.ref q2)))) := fun b xs e => by
        rw [upd_ne (fun z => by rw [z, hk] at e; cases e)]
        exact k2' _ _ (k0 _ _ e)
      refine (xk.keep nk).step nex hl ?_
      rw [upd_ne (ne_of_none (k0 _ _ hk) hq2).symm, upd_same]
      exact congrArg (fun z => some (HO.tup [.bl false, z])) (Option.some.inj hi1).symm
  rintro H17 ⟨s17, kvs3, hk3, lk3, xk3⟩
  have n23 : D2 ≠ D3 := fun z => by rw [← z, hk16] at hD3; cases hD3
  refine ⟨D2, D3, kvs2, kvs3, rfl, rfl, n23, s17 _ _ hk16, hk3, ?_, by omega, ?_⟩
  · rcases ok.ap with h | h
    · refine .inl (nk2 ?_)
      rw [lz, lsrt]
      exact fun z => h (List.eq_nil_of_length_eq_zero z)
    · exact .inr (by omega)
  have b18 : ∀ o, But D2 H17 (upd H17 D2 o) := fun o => But.at
  have t1618 : ∀ o b xs, H16 b = some (.tup xs) → upd H17 D2 o b = some (.tup xs) := fun o b xs e => by
    rw [upd_ne (fun z => by rw [z, hk16] at e; cases e)]
    exact s17 _ _ e
  have b1618 : ∀ o, But y H14 (upd H17 D2 o) := fun o b u n e => by
    rw [upd_ne (ne_of_none e hD2)]
    exact s17 _ _ (b1416 b u n e)
  have bfin : ∀ o, But y H (upd H17 D2 o) := fun o => (b12.trans b1214).trans (b1618 o)
  have t1218 : ∀ o, Tups H12 (upd H17 D2 o) := fun o b xs e => t1618 o _ _ (t1416 _ _ (t1214 _ _ e))
  obtain ⟨g1, g2, hg, hg1, hg2⟩ := bg
  refine q _ (bfin _) ⟨⟨dx, p1, p3, c, d, D, D2, ?_, ⟨us, t1218 _ _ _ (t612 _ _ hp16), stn_but (bfin _) hy pr⟩, ⟨zs, t1218 _ _ _ hp312, pipe_all (t1218 _) pz12⟩, ⟨es, t1218 _ _ _ hc12, pr_all (t1218 _) pe12⟩, g1, g2, t1218 _ _ _ hg, t1218 _ _ _ hg1, t1218 _ _ _ hg2⟩, ?_⟩
  · rw [upd_ne (Ne.symm ny2)]
    exact s17 _ _ hy16
  · refine ⟨dx, p1, p3, c, d, D, D2, kvs1, _, ?_, ?_, fun j p e => ik1 j p ?_ e, upd_same, onto_upd nex ?_ (fun j p e => ?_) ?_⟩
    · rw [upd_ne (Ne.symm ny2)]
      exact s17 _ _ hy16
    · rw [upd_ne (ne_of_none hk14 hD2)]
      exact s17 _ _ (b1416 _ _ nyD hk14)
    · rw [lz]; exact (List.getElem?_eq_some_iff.mp e).1
    · intro p hp hx
      have := (List.mem_filter.mp hx).2
      simp only [Bool.not_eq_true', decide_eq_false_iff_not] at this
      exact this (List.mem_map_of_mem ((srt_perm ps).mem_iff.mp hp))
    · obtain ⟨a, x, y⟩ := on2 j p (by rw [lz]; exact (List.getElem?_eq_some_iff.mp e).1) e
      exact ⟨a, x, t1618 _ _ _ (b1516.tups (s15 _ _ hy14) _ _ y)⟩
    · have := xk3
      rw [le6] at this
      refine this.keep fun b xs e => ?_
      rw [upd_ne (fun z => by rw [z, s17 _ _ hk16] at e; cases e)]
      exact e
end
end FY


set_option Elab.async false
set_option linter.all false
set_option maxRecDepth 100000
set_option maxHeartbeats 4000000
namespace FY
open PySem L2 FYR
theorem BgA.keep {H H' : Hp} (k : Tups H H') {d : Addr} {n m : Nat} (h : BgA H d n m) : BgA H' d n m := by
  obtain ⟨d1, d2, h1, h2, h3⟩ := h
  exact ⟨d1, d2, k _ _ h1, k _ _ h2, k _ _ h3⟩
theorem YdA.nl {CY C : Addr} {H H' : Hp} (k : NL H H') {y : Addr} {ts : List Stn} {ps : List Pipe} (h : YdA CY C H y ts ps) : YdA CY C H' y ts ps := by
  obtain ⟨⟨dx, a, b, c, d, e, f, hy, ⟨us, ha, pus⟩, ⟨ws, hb, pws⟩, ⟨es, hc, pes⟩, bg⟩, ⟨dx', a', b', c', d', e', f', kv, kw, h1, h2, h3, h4, h5⟩⟩ := h
  exact ⟨⟨dx, a, b, c, d, e, f, k _ _ (fun xs z => nomatch z) hy, ⟨us, k.tups _ _ ha, stn_all k pus⟩, ⟨ws, k.tups _ _ hb, pipe_all k.tups pws⟩, ⟨es, k.tups _ _ hc, pr_all k.tups pes⟩, bg.keep k.tups⟩, ⟨dx', a', b', c', d', e', f', kv, kw, k _ _ (fun xs z => nomatch z) h1, k _ _ (fun xs z => nomatch z) h2, h3, k _ _ (fun xs z => nomatch z) h4, h5.keep k.tups⟩⟩
def spYS (CY C : Addr) : Sp := fun vs H Q _ => ∃ (y : Addr) (ts : List Stn) (ps : List Pipe), vs = [.ref y] ∧ YdA CY C H y ts ps ∧ ∀ p us, H p = none → Paired (StnA C H) us ts → Q (.ref p) (upd H p (.lst us))
def spYP (CY C : Addr) : Sp := fun vs H Q _ => ∃ (y : Addr) (ts : List Stn) (ps : List Pipe), vs = [.ref y] ∧ YdA CY C H y ts ps ∧ ∀ p ws, H p = none → Paired (PipeA H) ws (srt ps) → Q (.ref p) (upd H p (.lst ws))
def spYE (CY C : Addr) : Sp := fun vs H Q _ => ∃ (y : Addr) (ts : List Stn) (ps : List Pipe), vs = [.ref y] ∧ YdA CY C H y ts ps ∧ ∀ p es, H p = none → Paired (PrA H) es (exitsOf ts ps) → Q (.ref p) (upd H p (.lst es))
def spYB (CY C : Addr) : Sp := fun vs H Q _ => ∃ (y : Addr) (ts : List Stn) (ps : List Pipe), vs = [.ref y] ∧ YdA CY C H y ts ps ∧ ∀ d, BgA H d ts.length ps.length → Q (.ref d) H
def spYL (CY C : Addr) : Sp := fun vs H Q _ => ∃ (y : Addr) (ts : List Stn) (ps : List Pipe), vs = [.ref y] ∧ YdA CY C H y ts ps ∧ Q (.int (ts.length : Nat)) H
def YdEq (CY C : Addr) (a b : Addr) (H : Hp) : Prop := ∃ ts ps, YdA CY C H a ts ps ∧ YdA CY C H b ts ps ∧ YdOk ts ps
theorem YdEq.mon {CY C a b : Addr} {H H' : Hp} (e : Ext H H') (h : YdEq CY C a b H) : YdEq CY C a b H' := by
  obtain ⟨ts, ps, h1, h2, h3⟩ := h
  exact ⟨ts, ps, h1.nl (fun b o _ q => e b o q), h2.nl (fun b o _ q => e b o q), h3⟩
theorem prs_st {C : Addr} {H : Hp} : ∀ {us vs : List V} {ts : List Stn}, Paired (StnA C H) us ts → Paired (StnA C H) vs ts → (∀ t ∈ ts, t.ok) → Prs (DIns C (StEq C)) us vs H
  | _, _, _, .nil, .nil, _ => Prs.nil
  | _, _, _, .cons r q, .cons r2 q2, h => by
    refine Prs.cons ?_ (prs_st q q2 fun t ht => h t (List.mem_cons_of_mem _ ht))
    obtain ⟨a, dx, p, ps, e, h1, h2, pr⟩ := id r
    obtain ⟨b, dy, p', ps', e', h1', h2', pr'⟩ := id r2
    subst e
    subst e'
    exact ⟨a, b, dx, dy, _, _, rfl, rfl, h1, h1', _, r, r2, h _ (List.mem_cons_self ..)⟩
theorem pps_nice {ps : List Pipe} (h : ∀ p ∈ ps, SmP p) (hm : ps.length ≤ 100) : Nice 2 3300 (.tuple (ps.map ppD)) := by
  refine nice_tup (n := 1) (w := 32) (m := 100) (fun d hd => ?_) (by rw [List.length_map]; exact hm)
  obtain ⟨p, hp, rfl⟩ := List.mem_map.mp hd
  exact pp_nice (h p hp)
def bgD (n m : Nat) : PyData := .tuple [.tuple (List.replicate n (.int 0)), .tuple (List.replicate m (.str ""))]
theorem dpall_rep {K : PySem.W.Frag} {H : Hp} {v : V} {d : PyData} (h : Dp K H v d) : ∀ n, DpAll K H (List.replicate n v) (List.replicate n d)
  | 0 => .nil
  | n + 1 => .cons h (dpall_rep h n)
theorem BgA.dp {K : PySem.W.Frag} {H : Hp} {d : Addr} {n m : Nat} (h : BgA H d n m) : Dp K H (.ref d) (bgD n m) := by
  obtain ⟨d1, d2, h1, h2, h3⟩ := h
  exact .tup (SqT.of h1) (.cons (.tup (SqT.of h2) (dpall_rep (.int 0) n)) (.cons (.tup (SqT.of h3) (dpall_rep (.str _) m)) .nil))
theorem bg_nice {n m : Nat} (hn : n ≤ 100) (hm : m ≤ 100) : Nice 2 2000 (bgD n m) := by
  refine Nice.mono (n := 2) (w := 1602) (nice_tup (n := 1) (w := 800) (m := 2) (fun d hd => ?_) (Nat.le_refl 2)) (Nat.le_refl 2) (by decide)
  simp only [List.mem_cons, List.not_mem_nil, or_false] at hd
  rcases hd with rfl | rfl
  · refine nice_tup (n := 0) (w := 7) (m := 100) (fun d hd => ?_) (by rw [List.length_replicate]; exact hn)
    rw [(List.mem_replicate.mp hd).2]
    exact nice_int (k := 0) (by decide)
  · refine (nice_tup (n := 0) (w := 0) (m := 100) (fun d hd => ?_) (by rw [List.length_replicate]; exact hm)).mono (Nat.le_refl 1) (by decide)
    rw [(List.mem_replicate.mp hd).2, se]
    exact nice_str (by simp)
section
variable {P : Program} {w : World} {K : PySem.W.Frag} {mg : Str → Option Value} {base : Heap} {aS a1 a2 aL aT : Addr} {f : Addr} {fd : FuncData} {C CD CY : Addr} {mc : Value}
abbrev s_Yard_stations : Stmt := inClass (top 47) 3
abbrev N_Yard_stations : List Str := ["self"]
theorem sc_Yard_stations : FnScope N_Yard_stations ["self"] (defScope s_Yard_stations) := ⟨rfl, rfl, rfl, by decide +kernel, rfl, by decide +kernel, by decide +kernel⟩
theorem ok_Yard_stations (F : Fun K "stations" "Yard.stations" s_Yard_stations f fd) (T : Txt K mg aS a1 a2) (Y : YdF K CY) : FnOk P w K mg base CX0 1 f fd ["self"] (spYS CY C) := by
  refine F.ok sc_Yard_stations (fun vs H Q E h => ?_) (fun cdv A outer s H vs Q E hr h => ?_)
  · obtain ⟨y, ts, ps, rfl, _⟩ := h
    rfl
  obtain ⟨y, ts, ps, rfl, ⟨⟨dx, a, b, c, d, e, f, hy, ⟨us, ha, pus⟩, ⟨ws, hb, pws⟩, ⟨es, hc, pes⟩, bg⟩, _⟩, q⟩ := h
  refine ⟨_, (pss_one (ps_ret (pe_callTy (kListOf K rfl) rfl T.b_list bt_list (pa_cons (kFld K rfl (pv 0)) pa_nil)))), ?_⟩
  exact ⟨_, rfl, y, CY, dx, _, _, rfl, hy, Y.cl, Y.nS, rfl, _, _, rfl, .inr (SqT.of ha), fun p hp => q p us hp pus⟩
abbrev s_Yard_pipes : Stmt := inClass (top 47) 4
abbrev N_Yard_pipes : List Str := ["self"]
theorem sc_Yard_pipes : FnScope N_Yard_pipes ["self"] (defScope s_Yard_pipes) := ⟨rfl, rfl, rfl, by decide +kernel, rfl, by decide +kernel, by decide +kernel⟩
theorem ok_Yard_pipes (F : Fun K "pipes" "Yard.pipes" s_Yard_pipes f fd) (T : Txt K mg aS a1 a2) (Y : YdF K CY) : FnOk P w K mg base CX0 1 f fd ["self"] (spYP CY C) := by
  refine F.ok sc_Yard_pipes (fun vs H Q E h => ?_) (fun cdv A outer s H vs Q E hr h => ?_)
  · obtain ⟨y, ts, ps, rfl, _⟩ := h
    rfl
  obtain ⟨y, ts, ps, rfl, ⟨⟨dx, a, b, c, d, e, f, hy, ⟨us, ha, pus⟩, ⟨ws, hb, pws⟩, ⟨es, hc, pes⟩, bg⟩, _⟩, q⟩ := h
  refine ⟨_, (pss_one (ps_ret (pe_callTy (kListOf K rfl) rfl T.b_list bt_list (pa_cons (kFld K rfl (pv 0)) pa_nil)))), ?_⟩
  exact ⟨_, rfl, y, CY, dx, _, _, rfl, hy, Y.cl, Y.nP, rfl, _, _, rfl, .inr (SqT.of hb), fun p hp => q p ws hp pws⟩
abbrev s_Yard_exits : Stmt := inClass (top 47) 6
abbrev N_Yard_exits : List Str := ["self"]
theorem sc_Yard_exits : FnScope N_Yard_exits ["self"] (defScope s_Yard_exits) := ⟨rfl, rfl, rfl, by decide +kernel, rfl, by decide +kernel, by decide +kernel⟩
theorem ok_Yard_exits (F : Fun K "exits" "Yard.exits" s_Yard_exits f fd) (T : Txt K mg aS a1 a2) (Y : YdF K CY) : FnOk P w K mg base CX0 1 f fd ["self"] (spYE CY C) := by
  refine F.ok sc_Yard_exits (fun vs H Q E h => ?_) (fun cdv A outer s H vs Q E hr h => ?_)
  · obtain ⟨y, ts, ps, rfl, _⟩ := h
    rfl
  obtain ⟨y, ts, ps, rfl, ⟨⟨dx, a, b, c, d, e, f, hy, ⟨us, ha, pus⟩, ⟨ws, hb, pws⟩, ⟨es, hc, pes⟩, bg⟩, _⟩, q⟩ := h
  refine ⟨_, (pss_one (ps_ret (pe_callTy (kListOf K rfl) rfl T.b_list bt_list (pa_cons (kFld K rfl (pv 0)) pa_nil)))), ?_⟩
  exact ⟨_, rfl, y, CY, dx, _, _, rfl, hy, Y.cl, Y.nX, rfl, _, _, rfl, .inr (SqT.of hc), fun p hp => q p es hp pes⟩
abbrev s_Yard_begin : Stmt := inClass (top 47) 5
abbrev N_Yard_begin : List Str := ["self"]
theorem sc_Yard_begin : FnScope N_Yard_begin ["self"] (defScope s_Yard_begin) := ⟨rfl, rfl, rfl, by decide +kernel, rfl, by decide +kernel, by decide +kernel⟩
theorem ok_Yard_begin (F : Fun K "begin" "Yard.begin" s_Yard_begin f fd) (T : Txt K mg aS a1 a2) (Y : YdF K CY) : FnOk P w K mg base CX0 1 f fd ["self"] (spYB CY C) := by
  refine F.ok sc_Yard_begin (fun vs H Q E h => ?_) (fun cdv A outer s H vs Q E hr h => ?_)
  · obtain ⟨y, ts, ps, rfl, _⟩ := h
    rfl
  obtain ⟨y, ts, ps, rfl, ⟨⟨dx, a, b, c, d, e, f, hy, ⟨us, ha, pus⟩, ⟨ws, hb, pws⟩, ⟨es, hc, pes⟩, bg⟩, _⟩, q⟩ := h
  refine ⟨_, (pss_one (ps_ret (kFld K rfl (pv 0)))), ?_⟩
  exact ⟨_, rfl, y, CY, dx, _, _, rfl, hy, Y.cl, Y.nB, rfl, q d bg⟩
abbrev s_Yard___len__ : Stmt := inClass (top 47) 8
abbrev N_Yard___len__ : List Str := ["self"]
theorem sc_Yard___len__ : FnScope N_Yard___len__ ["self"] (defScope s_Yard___len__) := ⟨rfl, rfl, rfl, by decide +kernel, rfl, by decide +kernel, by decide +kernel⟩
theorem ok_Yard_len (F : Fun K "__len__" "Yard.__len__" s_Yard___len__ f fd) (T : Txt K mg aS a1 a2) (Y : YdF K CY) : FnOk P w K mg base CX0 1 f fd ["self"] (spYL CY C) := by
  refine F.ok sc_Yard___len__ (fun vs H Q E h => ?_) (fun cdv A outer s H vs Q E hr h => ?_)
  · obtain ⟨y, ts, ps, rfl, _⟩ := h
    rfl
  obtain ⟨y, ts, ps, rfl, ⟨⟨dx, a, b, c, d, e, f, hy, ⟨us, ha, pus⟩, ⟨ws, hb, pws⟩, ⟨es, hc, pes⟩, bg⟩, _⟩, q⟩ := h
  refine ⟨_, (pss_one (ps_ret (pe_callB (kLen K rfl) rfl T.b_len bt_len (pa_cons (kFld K rfl (pv 0)) pa_nil)))), ?_⟩
  refine ⟨_, rfl, y, CY, dx, _, _, rfl, hy, Y.cl, Y.nS, rfl, _, _, rfl, .inr (SqT.of ha), ?_⟩
  rw [paired_len pus]
  exact q
abbrev s_Yard___eq__ : Stmt := inClass (top 47) 9
abbrev N_Yard___eq__ : List Str := ["self", "other"]
theorem sc_Yard___eq__ : FnScope N_Yard___eq__ ["self", "other"] (defScope s_Yard___eq__) := ⟨rfl, rfl, rfl, by decide +kernel, rfl, by decide +kernel, by decide +kernel⟩
theorem ok_Yard_eq {mcv : Value} (F : Fun K "__eq__" "Yard.__eq__" s_Yard___eq__ f fd) (T : Txt K mg aS a1 a2) (Y0 : YdC K mg CY mcv) (Y : YdF K CY) (I : IsaC K CY) (eS : EqC P w K mg base 1 C (StEq C)) : FnOk P w K mg base CX0 3 f fd ["self", "other"] (spEq (YdEq CY C)) := by
  refine F.ok sc_Yard___eq__ (fun vs H Q E h => ?_) (fun cdv A outer s H vs Q E hr h => ?_)
  · obtain ⟨a, b, rfl, _⟩ := h
    rfl
  obtain ⟨x, y, rfl, ⟨ts, ps, ⟨⟨dx, a, b, c, d, e, f, hy, ⟨us, ha, pus⟩, ⟨ws, hb, pws⟩, _, bg⟩, _⟩, ⟨⟨dx', a', b', c', d', e', f', hy', ⟨us', ha', pus'⟩, ⟨ws', hb', pws'⟩, _, bg'⟩, _⟩, ok⟩, q⟩ := h
  refine ⟨_, (pss_cons (ps_if (PW.pt (pw_or (pt_not (pt_val (pe_callB (kIsi K rfl) rfl T.b_isinstance bt_isinstance (pa_cons (pv 1) (pa_cons (C8.pe_gc rfl Y0.g_Yard) pa_nil))))) (pw_or1 (pt_cmpR (kNeTupO K rfl eS (fun _ _ _ _ => StEq.mon) hr (by decide)) (kFld K rfl (pv 0)) (kFld K rfl (pv 1)) (nomark _)))))
        (pss_one (ps_ret pe_bl))
        pss_nil)
        (pss_one (ps_ret (pe_and (pe_cmpR (kEqD K rfl hr.units) (kFld K rfl (pv 0)) (kFld K rfl (pv 1)) (nomark _)) (pe_one (pe_cmpR (kEqD K rfl hr.units) (kFld K rfl (pv 0)) (kFld K rfl (pv 1)) (nomark _))))))), ?_⟩
  refine ⟨_, rfl, _, _, _, _, _, rfl, .own CY, I.ty hy', kit_self, _, rfl, iteF ?_⟩
  refine ⟨_, rfl, x, CY, dx, _, _, rfl, hy, Y.cl, Y.nS, rfl, _, rfl, y, CY, dx', _, _, rfl, hy', Y.cl, Y.nS, rfl, ⟨a, a', us, us', rfl, rfl, SqT.of ha, SqT.of ha', prs_st pus pus' ok.ok⟩, fun H1 x1 => ⟨_, rfl, iteF ?_⟩⟩
  have t1 : Tups H H1 := fun b xs e => x1 _ _ e
  have pws1 := pipe_all t1 pws
  have pws1' := pipe_all t1 pws'
  have m2 := ok.m2
  have mp := ok.mp
  have lsrt : (srt ps).length = ps.length := (srt_perm ps).length_eq
  have n1 := pps_nice (ps := srt ps) (fun p hp => ppok_le (ok.pp p ((srt_perm ps).mem_iff.mp hp)) (by omega)) (by omega)
  have n2 := bg_nice (n := ts.length) (m := ps.length) (by omega) (by omega)
  refine ⟨_, rfl, x, CY, dx, _, _, rfl, x1 _ _ hy, Y.cl, Y.nP, rfl, _, rfl, y, CY, dx', _, _, rfl, x1 _ _ hy', Y.cl, Y.nP, rfl, _, _, .tup (SqT.of (t1 _ _ hb)) (dpall (fun _ _ r => r.dp) pws1), .tup (SqT.of (t1 _ _ hb')) (dpall (fun _ _ r => r.dp) pws1'), n1.shp (by decide), n1.shp (by decide), _, rfl, ?_⟩
  rw [eqv_dec n1.lay]
  refine iteT ⟨_, rfl, x, CY, dx, _, _, rfl, x1 _ _ hy, Y.cl, Y.nB, rfl, _, rfl, y, CY, dx', _, _, rfl, x1 _ _ hy', Y.cl, Y.nB, rfl, _, _, (bg.keep t1).dp, (bg'.keep t1).dp, n2.shp (by decide), n2.shp (by decide), ?_⟩
  rw [eqv_dec n2.lay]
  exact q _ x1
end
end FY


set_option Elab.async false
set_option linter.all false
set_option maxRecDepth 100000
set_option maxHeartbeats 4000000
namespace FY
open PySem L2 FYR
theorem pe_mk0 {X : Cx} {k j : Nat} {C : Addr} {x : Str} {sp : Sp} {dvs : List V} {p pos : Pos} (c : C8.Mak X.prog X.w X.K X.mg X.base k x C sp dvs) (hr : Room j X.A) (hk : k + 1 ≤ j) (hg : Gl X x) (hdb : (x == ("__debug__" : Str)) = false := by decide) : PE X (.Call (.Name x p) [] [] pos) (tMake C sp dvs C8.E0 tNil) := by
  obtain ⟨f, fd, ps, ds, M, F, hm, b, d⟩ := c.ex
  exact pe_make0 M F (hr.mono hk) hg hm b d C8.pass0 hdb
def finS (st : Stt) : Stt := if st.1 = [] then ([passSt], []) else st
theorem pass_way : wayOk [[r1 [false] 0, r1 [true] 0]] := by
  refine ⟨by decide, by decide, fun rs hrs => ?_⟩
  rw [List.mem_singleton.mp hrs]
  refine ⟨rfl, fun r hr => ?_⟩
  simp only [List.mem_cons, List.not_mem_nil, or_false] at hr
  rcases hr with rfl | rfl <;> exact r1_ok (by simp) (by decide)
theorem pass_yd : YdOk [passSt] [] := by
  refine ⟨Nat.le_refl 1, (by decide : 1 ≤ 12), fun t ht => ?_, fun t ht => ?_, fun p hp => (nomatch hp), List.nodup_nil, List.nodup_nil, Nat.le_refl 1, (by decide : 0 < 64), (by decide : 1 ≤ 3), .inr (Nat.le_refl 1)⟩
  · have : passSt = t := by simpa using ht
    rw [← this]
    rfl
  · rw [List.mem_singleton.mp ht]
    exact way_ok pass_way
/-- what the plain state must be for a yard -/
def stOk (st : Stt) : Prop := st.1 = [] ∨ YdOk st.1 st.2
def spMade (CD CY C : Addr) : Sp := fun vs H Q _ => ∃ (d S Pp : Addr) (ts : List Stn) (ps : List Pipe), vs = [.ref d] ∧ DrA CD C H d S Pp ts ps ∧ stOk (ts, ps) ∧ ∀ H' y, Same H H' → YdA CY C H' y (finS (ts, ps)).1 (finS (ts, ps)).2 → Q (.ref y) H'
def spCompiled (CY C : Addr) : Sp := fun vs H Q _ => ∃ (v : V) (t : Tm), vs = [v] ∧ TA H v t ∧ t.nodes ≤ 9 ∧ stOk (wholeS t none ([], [])).2 ∧ ∀ H' y, Same H H' → YdA CY C H' y (finS (wholeS t none ([], [])).2).1 (finS (wholeS t none ([], [])).2).2 → Q (.ref y) H'
section
variable {P : Program} {w : World} {K : PySem.W.Frag} {mg : Str → Option Value} {base : Heap} {aS a1 a2 aL aT : Addr} {f : Addr} {fd : FuncData} {C CD CY : Addr} {mc : Value}
abbrev s_Draft_made : Stmt := inClass (top 107) 5
abbrev N_Draft_made : List Str := ["self"]
theorem sc_Draft_made : FnScope N_Draft_made ["self"] (defScope s_Draft_made) := ⟨rfl, rfl, rfl, by decide +kernel, rfl, by decide +kernel, by decide +kernel⟩
theorem ok_Draft_made (F : Fun K "made" "Draft.made" s_Draft_made f fd) (D : DrC K mg CD) (c_row : C8.Cal P w K mg base 1 "row" spRow []) (c_one_way : C8.Cal P w K mg base 8 "one_way" (spOneWay C) []) (mk_Yard : C8.Mak P w K mg base 6 "Yard" CY (spYdInit CY C) [.non]) : FnOk P w K mg base CX0 9 f fd ["self"] (spMade CD CY C) := by
  refine F.ok sc_Draft_made (fun vs H Q E h => ?_) (fun cdv A outer s H vs Q E hr h => ?_)
  · obtain ⟨d, S, Pp, ts, ps, rfl, _⟩ := h
    rfl
  obtain ⟨d, S, Pp, ts, ps, rfl, ⟨⟨dx, hd⟩, ⟨us, hS, pr⟩, ⟨ws, hP, pp⟩, ne⟩, ok, q⟩ := h
  have lt := paired_len pr
  refine ⟨_, (pss_cons (ps_if (pt_cmpR (op_eqN hr.units) (kFld K rfl (pv 0)) (pe_lst pa_nil) (nomark _))
        (pss_one (ps_ret (C8.pe_mk mk_Yard hr (by decide) rfl (pa_cons (pe_lst (pa_cons (C8.pe_c c_one_way hr (by decide) rfl (pa_cons (pe_lst (pa_cons (pe_lst (pa_cons (C8.pe_c c_row hr (by decide) rfl (pa_cons pe_str (pa_cons pe_int pa_nil))) (pa_cons (C8.pe_c c_row hr (by decide) rfl (pa_cons pe_str (pa_cons pe_int pa_nil))) pa_nil))) pa_nil)) pa_nil)) pa_nil)) (pa_cons (pe_lst pa_nil) pa_nil)))))
        pss_nil)
        (pss_one (ps_ret (C8.pe_mk mk_Yard hr (by decide) rfl (pa_cons (kFld K rfl (pv 0)) (pa_cons (kFld K rfl (pv 0)) pa_nil)))))), ?_⟩
  refine ⟨_, rfl, d, CD, dx, _, _, rfl, hd, D.cl, D.nS, lkS S Pp, Nat.zero_le _, fun p0 hp0 => ?_⟩
  have k0 := same_new hp0 (.lst [])
  refine ⟨S, p0, us, rfl, rfl, k0 _ _ hS, upd_same, _, rfl, ?_⟩
  cases ts with
  | nil =>
    cases pr
    refine iteT ?_
    refine ⟨[false], 0, rowLit z0, fun H1 v1 s1 a1 => ⟨[true], 0, rowLit z1, fun H2 v2 s2 a2 => ⟨sz rfl, fun l0 hl0 => ⟨sz rfl, fun R hR => ?_⟩⟩⟩⟩
    have k1 := same_new hl0 (.lst [v1, v2])
    have k2 := same_new hR (.lst [.ref l0])
    refine ⟨R, _, [[r1 [false] 0, r1 [true] 0]], rfl, upd_same, .cons ⟨l0, _, rfl, k2 _ _ upd_same, .cons (a1.keep (Tups.of ((s2.trans' k1).trans' k2))) (.cons (a2.keep (Tups.of (k1.trans' k2))) .nil)⟩ .nil, pass_way, fun H3 v3 s3 st3 => ?_⟩
    refine ⟨sz rfl, fun L hL => ⟨Nat.zero_le _, fun M hM => ?_⟩⟩
    have k4 := same_new hL (.lst [v3])
    have k5 := same_new hM (.lst [])
    intro x dx' hx hdx hne
    have mm := mk_same (C := CY) hx hdx
    refine ⟨x, dx', L, M, [v3], [], [passSt], [], rfl, upd_same, mm _ _ (k5 _ _ upd_same), .cons (st3.but2 (NL.of ((k4.trans' k5).trans' mm))) .nil, mm _ _ upd_same, .nil, pass_yd, fun H' b ya => ⟨rfl, ?_⟩⟩
    exact q _ _ ((((((k0.trans' s1).trans' s2).trans' k1).trans' k2).trans' ((s3.trans' k4).trans' k5)).trans' (mk_after hx mm b)) ya
  | cons t tr =>
    have e : us.isEmpty = false := by
      cases pr
      rfl
    rw [e]
    refine iteF ?_
    have ok' : YdOk (t :: tr) ps := by
      rcases ok with z | z
      · cases z
      · exact z
    refine ⟨_, rfl, d, CD, dx, _, _, rfl, k0 _ _ hd, D.cl, D.nS, lkS S Pp, _, rfl, d, CD, dx, _, _, rfl, k0 _ _ hd, D.cl, D.nP, lkP S Pp, ?_⟩
    intro x dx' hx hdx hne
    have mm := mk_same (C := CY) hx hdx
    have km := k0.trans' mm
    refine ⟨x, dx', S, Pp, us, ws, t :: tr, ps, rfl, upd_same, km _ _ hS, stn_all (NL.of km) pr, km _ _ hP, pipe_all (Tups.of km) pp, ok', fun H' b ya => ⟨rfl, ?_⟩⟩
    exact q _ _ (k0.trans' (mk_after hx mm b)) ya
abbrev s_compiled : Stmt := top 108
abbrev N_compiled : List Str := ["term", "draft"]
theorem sc_compiled : FnScope N_compiled ["term"] (defScope s_compiled) := ⟨rfl, rfl, rfl, by decide +kernel, rfl, by decide +kernel, by decide +kernel⟩
theorem ok_compiled (F : Fun K "compiled" "compiled" s_compiled f fd) (c_want_term : C8.Cal P w K mg base 4 "want_term" spWantTerm []) (mk_Draft : C8.Mak P w K mg base 1 "Draft" CD (spDrInit CD C) []) (m_Draft_whole : C8.Met P w K mg base 29 CD "whole" (spWhole CD C 9) []) (m_Draft_made : C8.Met P w K mg base 9 CD "made" (spMade CD CY C) []) : FnOk P w K mg base CX0 30 f fd ["term"] (spCompiled CY C) := by
  refine F.ok sc_compiled (fun vs H Q E h => ?_) (fun cdv A outer s H vs Q E hr h => ?_)
  · obtain ⟨v, t, rfl, _⟩ := h
    rfl
  obtain ⟨v, t, rfl, ta, tn, sok, q⟩ := h
  refine ⟨_, (pss_cons (ps_expr (C8.pe_c c_want_term hr (by decide) rfl (pa_cons (pv 0) pa_nil)))
        (pss_cons (ps_set (i := 1) sc_compiled.nd rfl (Or.inl rfl) (pe_mk0 mk_Draft hr (by decide) rfl))
        (pss_cons (ps_expr (C8.pe_mt m_Draft_whole hr (by decide) (pv 1) (pa_cons (pv 0) (pa_cons pe_non pa_nil))))
        (pss_one (ps_ret (C8.pe_mt0 m_Draft_made hr (by decide) (pv 1))))))), ?_⟩
  refine ⟨_, rfl, v, t, rfl, ta, tn, fun H1 s1 => ?_⟩
  intro x dx hx hdx hne
  have mm := mk_same (C := CD) hx hdx
  refine ⟨x, dx, rfl, upd_same, fun H2 S Pp b hS hP dr => ⟨rfl, ?_⟩⟩
  have s2 : Same H1 H2 := mk_after hx mm b
  have s12 := s1.trans' s2
  obtain ⟨dx2, hd2⟩ := dr.ob
  refine ⟨_, rfl, x, dx2, _, rfl, hd2, lkW S Pp, _, rfl, ?_⟩
  refine ⟨x, S, Pp, v, .non, t, none, [], [], rfl, dr, ta.keep (Tups.of s12), tn, by omega, rfl, by simp; omega, Nat.le_refl _, fun H3 v3 f3 dr3 hv3 => ?_⟩
  obtain ⟨dx3, hd3⟩ := dr3.ob
  refine ⟨_, rfl, x, dx3, _, rfl, hd3, lkM S Pp, ?_⟩
  refine ⟨x, S, Pp, _, _, rfl, dr3, sok, fun H4 y s4 ya => q _ _ (fun b o e => ?_) ya⟩
  have n1 : ∀ {p : Addr}, upd (upd H1 dx (.own x)) x (.ins CD dx []) p = none → H1 p = none := fun {p} z => by
    cases e' : H1 p with
    | none => rfl
    | some o' => rw [mm _ _ e'] at z; cases z
  have e1 := s1 _ _ e
  exact s4 _ _ (f3 _ _ (ne_of_none e1 (n1 hS)) (ne_of_none e1 (n1 hP)) (s2 _ _ e1))
end
end FY


set_option Elab.async false
set_option linter.all false
set_option maxRecDepth 100000
set_option maxHeartbeats 4000000
namespace FY
theorem inp_eq {qs : List Pipe} (lt : ∀ p ∈ qs, p.1 < p.2.2.1) {x : List Bool} {hs hs' : Hist} {s : Nat} (h : ∀ s' < s, ∀ o, outH hs s' o = outH hs' s' o) (l : Nat) : inpH x qs hs s l = inpH x qs hs' s l := by
  unfold inpH
  split
  · rfl
  · split
    · rename_i p e
      have hp := List.mem_of_find?_eq_some e
      have hq := List.find?_some e
      have e2 : pe p = (s, l) := by simpa using hq
      have e3 : p.2.2.1 = s := (Prod.mk.inj e2).1
      exact h _ (by have := lt p hp; omega) _
    · rfl
theorem col_eq {qs : List Pipe} (lt : ∀ p ∈ qs, p.1 < p.2.2.1) {x : List Bool} {hs hs' : Hist} {s n : Nat} (h : ∀ s' < s, ∀ o, outH hs s' o = outH hs' s' o) : colH x qs hs s n = colH x qs hs' s n := by
  unfold colH
  congr 2
  funext l
  exact inp_eq lt h l
theorem kAt_set {k : List Nat} {s v : Nat} (h : s < k.length) (s' : Nat) : kAt (k.set s v) s' = if s' = s then v else kAt k s' := by
  unfold kAt
  rw [List.getElem?_set]
  by_cases e : s' = s
  · subst e
    simp [h]
  · rw [if_neg (fun z => e z.symm), if_neg e]
theorem outH_set {hs : Hist} {s : Nat} {v : List (List Bool)} (h : s < hs.length) (s' o : Nat) : outH (hs.set s v) s' o = if s' = s then (v[o]?).getD [] else outH hs s' o := by
  unfold outH
  rw [List.getElem?_set]
  by_cases e : s' = s
  · subst e
    simp [h]
  · rw [if_neg (fun z => e z.symm), if_neg e]
/-- the standing of a station -/
def sdH (x : List Bool) (qs : List Pipe) (k : List Nat) (hs : Hist) (s : Nat) (t : Stn) : Nat := (runT t 0 ((colH x qs hs s t.ins).take (kAt k s))).1
/-- the column that comes next -/
def nxH (x : List Bool) (qs : List Pipe) (k : List Nat) (hs : Hist) (s : Nat) (t : Stn) : List Bool := ((colH x qs hs s t.ins)[kAt k s]?).getD []
def rwH (x : List Bool) (qs : List Pipe) (k : List Nat) (hs : Hist) (s : Nat) (t : Stn) : Rw := rowC t (sdH x qs k hs s t) (nxH x qs k hs s t)
def kUp (k : List Nat) (s : Nat) : List Nat := k.set s (kAt k s + 1)
def hUp (hs : Hist) (s : Nat) (r : Rw) : Hist := hs.set s (List.zipWith (· ++ ·) (hs[s]?.getD []) r.gives)
theorem sd_lt {ts : List Stn} {qs : List Pipe} (N : NetOk ts qs) {x : List Bool} {k : List Nat} {hs : Hist} {s : Nat} {t : Stn} (e : ts[s]? = some t) : sdH x qs k hs s t < t.stgs.length :=
  (runT_ok (N.fu t (List.mem_of_getElem? e)) _ (N.fu t (List.mem_of_getElem? e)).ok.m1 fun c hc => col_in N e c (mem_take_in hc)).1
theorem Rch.len_out {ts : List Stn} {qs : List Pipe} (N : NetOk ts qs) {x : List Bool} {k : List Nat} {hs : Hist} (R : Rch ts qs x k hs) {s : Nat} {t : Stn} (e : ts[s]? = some t) : ∃ h, hs[s]? = some h ∧ h.length = t.outs ∧ ∀ o ∈ h, o.length ≤ 2 * kAt k s := by
  refine ⟨_, R.at_ s t e, ?_⟩
  obtain ⟨_, b, c⟩ := runT_ok (N.fu t (List.mem_of_getElem? e)) ((colH x qs hs s t.ins).take (kAt k s)) (N.fu t (List.mem_of_getElem? e)).ok.m1 fun c hc => col_in N e c (mem_take_in hc)
  refine ⟨b, fun o ho => Nat.le_trans (c o ho) ?_⟩
  rw [List.length_take]
  omega
theorem nx_len {ts : List Stn} {qs : List Pipe} (N : NetOk ts qs) {x : List Bool} {k : List Nat} {hs : Hist} {s : Nat} {t : Stn} (e : ts[s]? = some t) (h : kAt k s < (colH x qs hs s t.ins).length) : (nxH x qs k hs s t).length = t.ins := by
  unfold nxH
  rw [List.getElem?_eq_getElem h]
  exact col_in N e _ (List.getElem_mem h)
theorem rw_ok {ts : List Stn} {qs : List Pipe} (N : NetOk ts qs) {x : List Bool} {k : List Nat} {hs : Hist} {s : Nat} {t : Stn} (e : ts[s]? = some t) (h : kAt k s < (colH x qs hs s t.ins).length) : (rwH x qs k hs s t).ok t.outs t.stgs.length :=
  rowC_ok (N.fu t (List.mem_of_getElem? e)) (sd_lt N e) (nx_len N e h)
theorem lt_of_get {α : Type} {xs : List α} {i : Nat} {a : α} (h : xs[i]? = some a) : i < xs.length := (List.getElem?_eq_some_iff.mp h).1
/-- what a beat changes of what was given -/
theorem Rch.up_out {ts : List Stn} {qs : List Pipe} (N : NetOk ts qs) {x : List Bool} {k : List Nat} {hs : Hist} (R : Rch ts qs x k hs) {s : Nat} {t : Stn} (e : ts[s]? = some t) (h : kAt k s < (colH x qs hs s t.ins).length) (s' o : Nat) :
    outH (hUp hs s (rwH x qs k hs s t)) s' o = outH hs s' o ++ (if s' = s then ((rwH x qs k hs s t).gives[o]?).getD [] else []) := by
  have hl : s < hs.length := by rw [R.lh]; exact lt_of_get e
  unfold hUp
  rw [outH_set hl]
  by_cases es : s' = s
  · subst es
    rw [if_pos rfl, if_pos rfl]
    obtain ⟨g, hg, lg, _⟩ := R.len_out N e
    obtain ⟨r1, _⟩ := rw_ok N e h
    rw [hg]
    show ((List.zipWith (· ++ ·) g (rwH x qs k hs s' t).gives)[o]?).getD [] = _
    unfold outH
    rw [hg]
    by_cases ho : o < t.outs
    · have l1 : o < g.length := by omega
      have l2 : o < (rwH x qs k hs s' t).gives.length := by omega
      rw [List.getElem?_zipWith, List.getElem?_eq_getElem l2]
      simp [List.getElem?_eq_getElem l1]
    · have n1 : g[o]? = none := List.getElem?_eq_none (by omega)
      have n2 : (rwH x qs k hs s' t).gives[o]? = none := List.getElem?_eq_none (by omega)
      rw [List.getElem?_zipWith, n2]
      simp [n1]
  · rw [if_neg es, if_neg es, List.append_nil]
theorem Rch.step {ts : List Stn} {qs : List Pipe} (N : NetOk ts qs) {x : List Bool} {k : List Nat} {hs : Hist} (R : Rch ts qs x k hs) {s : Nat} {t : Stn} (e : ts[s]? = some t) (h : kAt k s < (colH x qs hs s t.ins).length) : Rch ts qs x (kUp k s) (hUp hs s (rwH x qs k hs s t)) := by
  have hl : s < hs.length := by rw [R.lh]; exact lt_of_get e
  have hk : s < k.length := by rw [R.lk]; exact lt_of_get e
  have fu := N.fu t (List.mem_of_getElem? e)
  have up := R.up_out N e h
  have pre : ∀ s' o, outH hs s' o <+: outH (hUp hs s (rwH x qs k hs s t)) s' o := fun s' o => by rw [up]; exact List.prefix_append _ _
  have same : ∀ s' ≤ s, ∀ n, colH x qs (hUp hs s (rwH x qs k hs s t)) s' n = colH x qs hs s' n := fun s' hs' n => col_eq N.lt fun s'' h'' o => by
    rw [up, if_neg (by omega), List.append_nil]
  have kU : ∀ s', kAt (kUp k s) s' = if s' = s then kAt k s + 1 else kAt k s' := kAt_set hk
  refine ⟨by simp [kUp, R.lk], by simp [hUp, R.lh], fun s' t' e' => ?_, fun s' t' e' => ?_⟩
  · rw [kU]
    by_cases es : s' = s
    · subst es
      obtain rfl : t' = t := Option.some.inj (e'.symm.trans e)
      rw [if_pos rfl, same _ (Nat.le_refl _)]
      omega
    · rw [if_neg es]
      have := R.le s' t' e'
      have c := (col_pre (x := x) N.lt (N.fu t' (List.mem_of_getElem? e')).ins (hs := hs) (hs' := hUp hs s (rwH x qs k hs s t)) (s := s') fun s'' _ o => pre s'' o).length_le
      omega
  · rw [kU]
    by_cases es : s' = s
    · subst es
      obtain rfl : t' = t := Option.some.inj (e'.symm.trans e)
      rw [if_pos rfl, same _ (Nat.le_refl _)]
      unfold hUp
      rw [List.getElem?_set]
      simp only [hl, if_true]
      have e1 : (colH x qs hs s' t'.ins).take (kAt k s' + 1) = (colH x qs hs s' t'.ins).take (kAt k s') ++ [nxH x qs k hs s' t'] := by
        rw [List.take_succ]
        unfold nxH
        rw [List.getElem?_eq_getElem h]
        rfl
      rw [e1, runT_snoc fu _ (nx_len N e h) _ fu.ok.m1 fun c hc => col_in N e c (mem_take_in hc), R.at_ s' t' e]
      rfl
    · rw [if_neg es]
      have e2 : (hUp hs s (rwH x qs k hs s t))[s']? = hs[s']? := by
        unfold hUp
        rw [List.getElem?_set, if_neg (fun z => es z.symm)]
      rw [e2, R.at_ s' t' e']
      have cp := col_pre (x := x) N.lt (N.fu t' (List.mem_of_getElem? e')).ins (hs := hs) (hs' := hUp hs s (rwH x qs k hs s t)) (s := s') fun s'' _ o => pre s'' o
      obtain ⟨r, hr⟩ := cp
      rw [← hr, List.take_append_of_le_length (R.le s' t' e')]
/-- standings of the others stay -/
theorem Rch.up_sd {ts : List Stn} {qs : List Pipe} (N : NetOk ts qs) {x : List Bool} {k : List Nat} {hs : Hist} (R : Rch ts qs x k hs) {s : Nat} {t : Stn} (e : ts[s]? = some t) (h : kAt k s < (colH x qs hs s t.ins).length) {s' : Nat} {t' : Stn} (e' : ts[s']? = some t') :
    sdH x qs (kUp k s) (hUp hs s (rwH x qs k hs s t)) s' t' = if s' = s then (rwH x qs k hs s t).goal else sdH x qs k hs s' t' := by
  have hk : s < k.length := by rw [R.lk]; exact lt_of_get e
  have fu := N.fu t (List.mem_of_getElem? e)
  have up := R.up_out N e h
  have pre : ∀ s' o, outH hs s' o <+: outH (hUp hs s (rwH x qs k hs s t)) s' o := fun s' o => by rw [up]; exact List.prefix_append _ _
  have kU : ∀ s', kAt (kUp k s) s' = if s' = s then kAt k s + 1 else kAt k s' := kAt_set hk
  unfold sdH
  rw [kU]
  by_cases es : s' = s
  · subst es
    obtain rfl : t' = t := Option.some.inj (e'.symm.trans e)
    rw [if_pos rfl, if_pos rfl, col_eq (hs := hUp hs s' (rwH x qs k hs s' t')) (hs' := hs) N.lt fun s'' h'' o => by rw [up, if_neg (by omega), List.append_nil]]
    have e1 : (colH x qs hs s' t'.ins).take (kAt k s' + 1) = (colH x qs hs s' t'.ins).take (kAt k s') ++ [nxH x qs k hs s' t'] := by
      rw [List.take_succ]
      unfold nxH
      rw [List.getElem?_eq_getElem h]
      rfl
    rw [e1, runT_snoc fu _ (nx_len N e h) _ fu.ok.m1 fun c hc => col_in N e c (mem_take_in hc)]
    rfl
  · rw [if_neg es, if_neg es]
    have cp := col_pre (x := x) N.lt (N.fu t' (List.mem_of_getElem? e')).ins (hs := hs) (hs' := hUp hs s (rwH x qs k hs s t)) (s := s') fun s'' _ o => pre s'' o
    obtain ⟨r, hr⟩ := cp
    rw [← hr, List.take_append_of_le_length (R.le s' t' e')]
/-! ### how many beats there can be -/
theorem cols_len {n : Nat} (hn : n = 1 ∨ n = 2) (x : List Bool) (qs : List Pipe) (hs : Hist) (s : Nat) : (colH x qs hs s n).length ≤ (inpH x qs hs s 0).length := by
  rcases hn with rfl | rfl
  · simp [colH, colsL]
  · show (List.zipWith _ (inpH x qs hs s 0) (inpH x qs hs s 1)).length ≤ _
    rw [List.length_zipWith]
    omega
theorem Rch.bound {ts : List Stn} {qs : List Pipe} (N : NetOk ts qs) {x : List Bool} {k : List Nat} {hs : Hist} (R : Rch ts qs x k hs) : ∀ s, kAt k s ≤ x.length * 2 ^ s := by
  intro s
  induction s using Nat.strongRecOn with
  | ind s ih =>
    cases e : ts[s]? with
    | none =>
      have : k[s]? = none := by
        rw [List.getElem?_eq_none_iff] at e ⊢
        have := R.lk
        omega
      unfold kAt
      rw [this]
      exact Nat.zero_le _
    | some t =>
      refine Nat.le_trans (Nat.le_trans (R.le s t e) (cols_len (N.fu t (List.mem_of_getElem? e)).ins x qs hs s)) ?_
      unfold inpH
      split
      · rename_i z
        have : s = 0 := (Prod.mk.inj z).1
        subst this
        simp
      · split
        · rename_i p z
          have hp := List.mem_of_find?_eq_some z
          have hq := List.find?_some z
          have e2 : pe p = (s, 0) := by simpa using hq
          have e3 : p.2.2.1 = s := (Prod.mk.inj e2).1
          have lt := N.lt p hp
          have b := ih p.1 (by omega)
          have o2 : (outH hs p.1 p.2.1).length ≤ 2 * kAt k p.1 := by
            cases e5 : ts[p.1]? with
            | none => rw [R.out_none e5]; simp
            | some u =>
              obtain ⟨g, hg, _, ho⟩ := R.len_out N e5
              unfold outH
              rw [hg]
              show ((g[p.2.1]?).getD []).length ≤ _
              cases e6 : g[p.2.1]? with
              | none => simp
              | some o => exact ho o (List.mem_of_getElem? e6)
          have p2 : 2 ^ (p.1 + 1) ≤ 2 ^ s := Nat.pow_le_pow_right (by decide) (by omega)
          have p3 := Nat.mul_le_mul_left x.length p2
          rw [Nat.pow_succ, ← Nat.mul_assoc] at p3
          omega
        · simp
theorem sum_bound (m : Nat) : ∀ (k : List Nat) (a : Nat), (∀ s, kAt k s ≤ m * 2 ^ (a + s)) → k.sum + m * 2 ^ a ≤ m * 2 ^ (a + k.length)
  | [], a, _ => by simp
  | v :: r, a, h => by
    have h0 : v ≤ m * 2 ^ a := h 0
    have ih := sum_bound m r (a + 1) fun s => by
      have := h (s + 1)
      rw [show a + 1 + s = a + (s + 1) by omega]
      exact this
    rw [show a + 1 + r.length = a + (r.length + 1) by omega, Nat.pow_succ, ← Nat.mul_assoc] at ih
    simp only [List.sum_cons, List.length_cons]
    omega
theorem Rch.sum {ts : List Stn} {qs : List Pipe} (N : NetOk ts qs) {x : List Bool} {k : List Nat} {hs : Hist} (R : Rch ts qs x k hs) : k.sum ≤ x.length * 2 ^ ts.length := by
  have := sum_bound x.length k 0 fun s => by rw [Nat.zero_add]; exact R.bound N s
  rw [Nat.zero_add, R.lk] at this
  omega
theorem sum_up {k : List Nat} {s : Nat} (h : s < k.length) : (kUp k s).sum = k.sum + 1 := by
  unfold kUp kAt
  induction k generalizing s with
  | nil => simp at h
  | cons v r ih =>
    cases s with
    | zero => simp; omega
    | succ s =>
      have := ih (s := s) (by simpa using h)
      simp only [List.getElem?_cons_succ, List.set_cons_succ, List.sum_cons]
      omega
theorem sum_le_eq : ∀ {k K : List Nat}, k.length = K.length → (∀ s, kAt k s ≤ kAt K s) → k.sum ≤ K.sum ∧ (k.sum = K.sum → k = K)
  | [], [], _, _ => ⟨Nat.le_refl _, fun _ => rfl⟩
  | a :: k, b :: K, hl, h => by
    obtain ⟨h1, h2⟩ := sum_le_eq (k := k) (K := K) (by simpa using hl) fun s => h (s + 1)
    have h0 : a ≤ b := h 0
    simp only [List.sum_cons]
    refine ⟨by omega, fun e => ?_⟩
    rw [h2 (by omega), show a = b by omega]
  | [], _ :: _, hl, _ => by simp at hl
  | _ :: _, [], hl, _ => by simp at hl
theorem Rch.begin {ts : List Stn} {qs : List Pipe} (N : NetOk ts qs) (x : List Bool) : Rch ts qs x (List.replicate ts.length 0) (ts.map fun t => List.replicate t.outs []) := by
  have k0 : ∀ s, kAt (List.replicate ts.length 0) s = 0 := fun s => by
    unfold kAt
    rw [List.getElem?_replicate]
    split <;> rfl
  refine ⟨by simp, by simp, fun s t e => by rw [k0]; exact Nat.zero_le _, fun s t e => ?_⟩
  rw [k0, List.getElem?_map, e]
  rfl
end FY

set_option Elab.async false
set_option linter.all false
set_option maxRecDepth 100000
set_option maxHeartbeats 4000000
namespace FY
/-! ### compiled stations as machines -/
theorem full_way {rss : List (List Rw)} (h : wayOk rss) : (wayOf rss).full := ⟨way_ok h, fun s hs => by
  obtain ⟨rs, _, rfl⟩ := List.mem_map.mp hs
  rfl⟩
theorem full_st {t : Tm} (h : t.isIn = false) (h2 : t.isThn = false) : (stOf t).full := by
  refine ⟨(stOf_ok h h2).1, ?_⟩
  cases t with
  | inn => cases h
  | thn _ _ => cases h2
  | one w t => exact (full_way (rows_ok (t := .one w t) rfl)).al
  | late w t => exact (full_way (rows_ok (t := .late w t) rfl)).al
  | byy a b c d t u => intro s hs; rw [List.mem_singleton.mp hs]; rfl
  | keep t u => intro s hs; rw [List.mem_singleton.mp hs]; rfl
theorem full_copy : copySt.full := ⟨copy_ok, fun s hs => by rw [List.mem_singleton.mp hs]; rfl⟩
theorem full_pass : passSt.full := full_way ⟨by decide, by decide, fun rs hrs => by
  rw [List.mem_singleton.mp hrs]
  refine ⟨rfl, fun r hr => ?_⟩
  simp only [List.mem_cons, List.not_mem_nil, or_false] at hr
  rcases hr with rfl | rfl <;> exact r1_ok (by simp) (by decide)⟩
theorem run_cons (t : Stn) (g : Nat) (c : List Bool) (cs : List (List Bool)) : (runT t g (c :: cs)).2 = List.zipWith (· ++ ·) (rowC t g c).gives (runT t (rowC t g c).goal cs).2 := rfl
theorem run_no (u : Tm) : ∀ x : List Bool, (runT (stOf (.one .no u)) 0 (x.map fun b => [b])).2 = [x.map (!·)]
  | [] => rfl
  | b :: x => by
    rw [List.map_cons, run_cons]
    cases b
    · show List.zipWith _ [[true]] (runT (stOf (.one .no u)) 0 _).2 = _
      rw [run_no u x]; rfl
    · show List.zipWith _ [[false]] (runT (stOf (.one .no u)) 0 _).2 = _
      rw [run_no u x]; rfl
theorem run_twice (u : Tm) : ∀ x : List Bool, (runT (stOf (.one .twice u)) 0 (x.map fun b => [b])).2 = [dblL x]
  | [] => rfl
  | b :: x => by
    rw [List.map_cons, run_cons]
    cases b
    · show List.zipWith _ [[false, false]] (runT (stOf (.one .twice u)) 0 _).2 = _
      rw [run_twice u x]; rfl
    · show List.zipWith _ [[true, true]] (runT (stOf (.one .twice u)) 0 _).2 = _
      rw [run_twice u x]; rfl
theorem run_half (u : Tm) : ∀ x : List Bool, (runT (stOf (.one .half u)) 0 (x.map fun b => [b])).2 = [halfL x]
  | [] => rfl
  | [b] => by cases b <;> rfl
  | a :: b :: x => by
    rw [List.map_cons, List.map_cons, run_cons]
    have e : rowC (stOf (.one .half u)) 0 [a] = r1 [] 1 := by cases a <;> rfl
    rw [e]
    show List.zipWith _ [[]] (runT (stOf (.one .half u)) 1 ([b] :: _)).2 = _
    rw [run_cons]
    have e : rowC (stOf (.one .half u)) 1 [b] = r1 [b] 0 := by cases b <;> rfl
    rw [e]
    show List.zipWith _ [[]] (List.zipWith _ [[b]] (runT (stOf (.one .half u)) 0 _).2) = _
    rw [run_half u x]; rfl
theorem run_change (u : Tm) : ∀ (x : List Bool) (l : Bool), (runT (stOf (.one .change u)) l.toNat (x.map fun b => [b])).2 = [chgL l x]
  | [], l => by cases l <;> rfl
  | b :: x, l => by
    rw [List.map_cons, run_cons]
    have e : rowC (stOf (.one .change u)) l.toNat [b] = r1 [b != l] b.toNat := by cases l <;> cases b <;> rfl
    rw [e]
    show List.zipWith _ [[b != l]] (runT (stOf (.one .change u)) b.toNat _).2 = _
    rw [run_change u x b]; rfl
theorem run_count (u : Tm) : ∀ (x : List Bool) (l : Bool), (runT (stOf (.one .count u)) l.toNat (x.map fun b => [b])).2 = [cntL l x]
  | [], l => by cases l <;> rfl
  | b :: x, l => by
    rw [List.map_cons, run_cons]
    have e : rowC (stOf (.one .count u)) l.toNat [b] = r1 [b != l] (b != l).toNat := by cases l <;> cases b <;> rfl
    rw [e]
    show List.zipWith _ [[b != l]] (runT (stOf (.one .count u)) (b != l).toNat _).2 = _
    rw [run_count u x (b != l)]; rfl
theorem run_late (b : Bool) (u : Tm) : ∀ (x : List Bool) (p : Bool), (runT (stOf (.late b u)) (p != b).toNat (x.map fun b => [b])).2 = [(p :: x).take x.length]
  | [], p => by cases p <;> cases b <;> rfl
  | c :: x, p => by
    rw [List.map_cons, run_cons]
    have e : rowC (stOf (.late b u)) (p != b).toNat [c] = r1 [p] (c != b).toNat := by cases p <;> cases b <;> cases c <;> rfl
    rw [e]
    show List.zipWith _ [[p]] (runT (stOf (.late b u)) (c != b).toNat _).2 = _
    rw [run_late b u x c]; rfl
theorem run_by (a b c d : Bool) (t u : Tm) : ∀ x y : List Bool, (runT (stOf (.byy a b c d t u)) 0 (List.zipWith (fun a b => [a, b]) x y)).2 = [byL a b c d x y]
  | [], y => by cases y <;> rfl
  | _ :: _, [] => rfl
  | p :: x, q :: y => by
    rw [List.zipWith_cons_cons, run_cons]
    have e : rowC (stOf (.byy a b c d t u)) 0 [p, q] = r1 [if p then (if q then d else c) else (if q then b else a)] 0 := by cases p <;> cases q <;> rfl
    rw [e]
    show List.zipWith _ [[_]] (runT (stOf (.byy a b c d t u)) 0 _).2 = _
    rw [run_by a b c d t u x y]; rfl
theorem run_keep (t u : Tm) : ∀ x y : List Bool, (runT (stOf (.keep t u)) 0 (List.zipWith (fun a b => [a, b]) x y)).2 = [keepL x y]
  | [], y => by cases y <;> rfl
  | _ :: _, [] => rfl
  | p :: x, q :: y => by
    rw [List.zipWith_cons_cons, run_cons]
    have e : rowC (stOf (.keep t u)) 0 [p, q] = r1 (if q then [p] else []) 0 := by cases p <;> cases q <;> rfl
    rw [e]
    show List.zipWith _ [if q then [p] else []] (runT (stOf (.keep t u)) 0 _).2 = _
    rw [run_keep t u x y]
    cases q <;> rfl
theorem run_copy : ∀ x : List Bool, (runT copySt 0 (x.map fun b => [b])).2 = [x, x]
  | [] => rfl
  | b :: x => by
    rw [List.map_cons, run_cons]
    have e : rowC copySt 0 [b] = ⟨[[b], [b]], 0, 1⟩ := by cases b <;> rfl
    rw [e]
    show List.zipWith _ [[b], [b]] (runT copySt 0 _).2 = _
    rw [run_copy x]; rfl
theorem run_pass : ∀ x : List Bool, (runT passSt 0 (x.map fun b => [b])).2 = [x]
  | [] => rfl
  | b :: x => by
    rw [List.map_cons, run_cons]
    have e : rowC passSt 0 [b] = r1 [b] 0 := by cases b <;> rfl
    rw [e]
    show List.zipWith _ [[b]] (runT passSt 0 _).2 = _
    rw [run_pass x]; rfl
theorem run_one (w : W1) (u : Tm) (x : List Bool) : (runT (stOf (.one w u)) 0 (x.map fun b => [b])).2 = [oneL w x] := by
  cases w with
  | no => exact run_no u x
  | twice => exact run_twice u x
  | half => exact run_half u x
  | change => exact run_change u x false
  | count => exact run_count u x false
theorem run_lateL (b : Bool) (u : Tm) (x : List Bool) : (runT (stOf (.late b u)) 0 (x.map fun b => [b])).2 = [lateL b x] := by
  have := run_late b u x b
  rw [bne_self_eq_false] at this
  exact this
/-! ### what the built net gives -/
def ExtS (a b : Stt) : Prop := a.1 <+: b.1 ∧ a.2 <+: b.2
theorem ExtS.refl (a : Stt) : ExtS a a := ⟨List.prefix_refl _, List.prefix_refl _⟩
theorem ExtS.trans {a b c : Stt} (h : ExtS a b) (g : ExtS b c) : ExtS a c := ⟨h.1.trans g.1, h.2.trans g.2⟩
theorem ext_put (st : Stt) (t : Stn) (ls : List Ln) : ExtS st (putS st t ls) := ⟨List.prefix_append _ _, List.prefix_append _ _⟩
theorem ext_cop : ∀ (k : Nat) (st : Stt) (l : Ln), ExtS st (copS k st l).1
  | 0, st, l => .refl _
  | k + 1, st, l => (ext_cop k st l).trans (ext_put _ _ _)
theorem ext_part : ∀ (t : Tm) (ls : List Ln) (st : Stt), ExtS st (partS t ls st).2.2 := by
  intro t
  induction t with
  | inn => intro ls st; exact .refl _
  | one w t ih => intro ls st; exact (ih ls st).trans (ext_put _ _ _)
  | late w t ih => intro ls st; exact (ih ls st).trans (ext_put _ _ _)
  | byy a b c d t u i1 i2 => intro ls st; exact ((i1 ls st).trans (i2 _ _)).trans (ext_put _ _ _)
  | keep t u i1 i2 => intro ls st; exact ((i1 ls st).trans (i2 _ _)).trans (ext_put _ _ _)
  | thn t u i1 i2 => intro ls st; exact ((i1 ls st).trans (ext_cop _ _ _)).trans (i2 _ _)
def vlL (x : List Bool) (hs : Hist) : Ln → List Bool
  | none => x
  | some l => outH hs l.1 l.2
structure SemF (x : List Bool) (fin : Stt) (qs : List Pipe) (hs : Hist) : Prop where
  fd : ∀ p ∈ fin.2, qs.find? (fun q => decide (pe q = pe p)) = some p
  at_ : ∀ s t, fin.1[s]? = some t → hs[s]? = some (runT t 0 (colH x qs hs s t.ins)).2
theorem pipes_mem (n : Nat) : ∀ (p : Nat) (ls : List Ln) (l : Nat) (a : Nat × Nat), ls[l]? = some (some a) → (a.1, a.2, n, p + l) ∈ pipesOf n p ls
  | p, [], l, a, h => by simp at h
  | p, none :: r, 0, a, h => by simp at h
  | p, some b :: r, 0, a, h => by
    have : b = a := by simpa using h
    subst this
    simp [pipesOf]
  | p, none :: r, l + 1, a, h => by
    have := pipes_mem n (p + 1) r l a (by simpa using h)
    rw [show p + (l + 1) = p + 1 + l by omega]
    simpa [pipesOf] using this
  | p, some b :: r, l + 1, a, h => by
    have := pipes_mem n (p + 1) r l a (by simpa using h)
    rw [show p + (l + 1) = p + 1 + l by omega]
    simp only [pipesOf, List.mem_cons]
    exact .inr this
theorem put_sem {x : List Bool} {fin st : Stt} {qs : List Pipe} {hs : Hist} {t : Stn} {ls rest : List Ln} (S : SemF x fin qs hs) (O : OkS st (ls ++ rest)) (hl : ls.length = t.ins) (ht : t.ok) (E : ExtS (putS st t ls) fin) (o : Nat) :
    outH hs st.1.length o = ((runT t 0 (colsL (ls.map (vlL x hs)))).2[o]?).getD [] := by
  obtain ⟨ts, ps⟩ := st
  obtain ⟨⟨r1, e1⟩, ⟨r2, e2⟩⟩ := E
  have a1 : fin.1[ts.length]? = some t := by
    rw [← e1]
    show ((ts ++ [t]) ++ r1)[ts.length]? = some t
    simp
  have P := O.put hl ht
  unfold outH
  show ((hs[ts.length]?.getD [])[o]?).getD [] = _
  rw [S.at_ _ _ a1]
  show ((runT t 0 (colH x qs hs ts.length t.ins)).2[o]?).getD [] = _
  have e : (List.range t.ins).map (inpH x qs hs ts.length) = ls.map (vlL x hs) := by
    refine List.ext_getElem (by simp [hl]) fun l h1 h2 => ?_
    have hl1 : l < ls.length := by simpa using h2
    simp only [List.getElem_map, List.getElem_range]
    cases z : ls[l] with
    | none =>
      have hn : none ∈ ls ++ rest := List.mem_append_left _ (z ▸ List.getElem_mem hl1)
      have t0 : ts = [] := O.ent hn
      have i1 := P.fst t (by subst t0; rfl)
      subst t0
      obtain rfl : l = 0 := by omega
      rfl
    | some a =>
      have hm : some a ∈ ls ++ rest := List.mem_append_left _ (z ▸ List.getElem_mem hl1)
      have hp : (a.1, a.2, ts.length, 0 + l) ∈ fin.2 := by
        rw [← e2]
        exact List.mem_append_left _ (List.mem_append_right _ (pipes_mem ts.length 0 ls l a (by rw [List.getElem?_eq_getElem hl1, z])))
      have f := S.fd _ hp
      have t0 : ts ≠ [] := fun t0 => by
        have hb := O.beg
        subst t0
        have : a ∈ (ls ++ rest).filterMap id := List.mem_filterMap.mpr ⟨some a, hm, rfl⟩
        have := hb.mem_iff.mp (List.mem_append_right _ this)
        simp [linesFrom] at this
      have tl : ts.length ≠ 0 := fun z => t0 (List.length_eq_zero_iff.mp z)
      unfold inpH
      rw [if_neg (fun z => tl (Prod.mk.inj z).1)]
      have f' : qs.find? (fun q => decide (pe q = (ts.length, l))) = some (a.1, a.2, ts.length, 0 + l) := by
        have e0 : pe ((a.1, a.2, ts.length, 0 + l) : Pipe) = (ts.length, l) := by simp [pe]
        rw [e0] at f
        exact f
      rw [f']
      rfl
  unfold colH
  rw [e]
theorem copS_sem {x : List Bool} {fin : Stt} {qs : List Pipe} {hs : Hist} (S : SemF x fin qs hs) : ∀ (k : Nat) (st : Stt) (l : Ln) (rest : List Ln), OkS st (l :: rest) → ExtS (copS k st l).1 fin → ∀ l' ∈ copL k st l, vlL x hs l' = vlL x hs l
  | 0, st, l, rest, O, E, l', h => by
    have : l' = l := by simpa [copL, copS] using h
    rw [this]
  | k + 1, st, l, rest, O, E, l', h => by
    have Ek : ExtS (copS k st l).1 fin := (ext_put _ _ _).trans E
    have ih := copS_sem S k st l rest O Ek
    obtain ⟨h1, h2, h3⟩ := copS_ok k st l rest O
    have h4 : OkS (copS k st l).1 ([(copS k st l).2.2] ++ ((copS k st l).2.1 ++ rest)) := h1.perm (by
      unfold copL
      rw [← List.append_assoc]
      exact List.Perm.append_right _ List.perm_append_comm)
    have ps := put_sem (t := copySt) S h4 rfl copy_ok E
    have lst : vlL x hs (copS k st l).2.2 = vlL x hs l := ih _ (List.mem_append_right _ (List.mem_singleton.mpr rfl))
    have e : colsL ([(copS k st l).2.2].map (vlL x hs)) = (vlL x hs l).map fun b => [b] := by
      rw [List.map_singleton, lst]
      rfl
    rw [e, run_copy] at ps
    have h' : l' ∈ ((copS k st l).2.1 ++ [some ((copS k st l).1.1.length, 0)]) ++ [some ((copS k st l).1.1.length, 1)] := h
    rcases List.mem_append.mp h' with h' | h'
    · rcases List.mem_append.mp h' with h' | h'
      · exact ih _ (List.mem_append_left _ h')
      · rw [List.mem_singleton.mp h']
        exact ps 0
    · rw [List.mem_singleton.mp h']
      exact ps 1
theorem take_all {α : Type} {P : α → Prop} {xs : List α} {n m : Nat} (h : ∀ a ∈ xs.take (n + m), P a) : (∀ a ∈ xs.take n, P a) ∧ ∀ a ∈ (xs.drop n).take m, P a := by
  rw [List.take_add] at h
  exact ⟨fun a ha => h a (List.mem_append_left _ ha), fun a ha => h a (List.mem_append_right _ ha)⟩
theorem partS_sem {x : List Bool} {fin : Stt} {qs : List Pipe} {hs : Hist} (S : SemF x fin qs hs) : ∀ (t : Tm) (ls : List Ln) (st : Stt) (rest : List Ln) (y : List Bool), outerN t ≤ ls.length → OkS st (ls ++ rest) → ExtS (partS t ls st).2.2 fin → (∀ l ∈ ls.take (outerN t), vlL x hs l = y) → vlL x hs (partS t ls st).1 = flow t y := by
  intro t
  induction t with
  | inn =>
    intro ls st rest y hl O E h
    cases ls with
    | nil => simp [outerN] at hl
    | cons l r => exact h l (by simp [outerN])
  | one w t ih =>
    intro ls st rest y hl O E h
    have E1 : ExtS (partS t ls st).2.2 fin := (ext_put _ _ _).trans E
    obtain ⟨h1, h2, h3⟩ := partS_ok t ls st rest hl O
    have v := ih ls st rest y hl O E1 h
    have k := stOf_ok (t := .one w t) rfl rfl
    have p := put_sem (ls := [(partS t ls st).1]) (rest := (partS t ls st).2.1 ++ rest) S h1 k.2.1.symm k.1 E 0
    have e : colsL ([(partS t ls st).1].map (vlL x hs)) = (flow t y).map fun b => [b] := by
      rw [List.map_singleton, v]; rfl
    rw [e, run_one] at p
    exact p
  | late w t ih =>
    intro ls st rest y hl O E h
    have E1 : ExtS (partS t ls st).2.2 fin := (ext_put _ _ _).trans E
    obtain ⟨h1, h2, h3⟩ := partS_ok t ls st rest hl O
    have v := ih ls st rest y hl O E1 h
    have k := stOf_ok (t := .late w t) rfl rfl
    have p := put_sem (ls := [(partS t ls st).1]) (rest := (partS t ls st).2.1 ++ rest) S h1 k.2.1.symm k.1 E 0
    have e : colsL ([(partS t ls st).1].map (vlL x hs)) = (flow t y).map fun b => [b] := by
      rw [List.map_singleton, v]; rfl
    rw [e, run_lateL] at p
    exact p
  | byy a b c d t u i1 i2 =>
    intro ls st rest y hl O E h
    have E2 : ExtS (partS u (partS t ls st).2.1 (partS t ls st).2.2).2.2 fin := (ext_put _ _ _).trans E
    have E1 : ExtS (partS t ls st).2.2 fin := (ext_part _ _ _).trans E2
    have hl' : outerN t + outerN u ≤ ls.length := hl
    obtain ⟨ha, hb⟩ := take_all (n := outerN t) (m := outerN u) (P := fun l => vlL x hs l = y) h
    obtain ⟨h1, h2, h3⟩ := partS_ok t ls st rest (by omega) O
    have v1 := i1 ls st rest y (by omega) O E1 ha
    have O2 := h1.perm (b := (partS t ls st).2.1 ++ ((partS t ls st).1 :: rest)) (by exact List.perm_middle.symm)
    have l2 : outerN u ≤ (partS t ls st).2.1.length := by rw [h2, List.length_drop]; omega
    obtain ⟨g1, g2, g3⟩ := partS_ok u (partS t ls st).2.1 (partS t ls st).2.2 ((partS t ls st).1 :: rest) l2 O2
    have v2 := i2 (partS t ls st).2.1 (partS t ls st).2.2 ((partS t ls st).1 :: rest) y l2 O2 E2 (by rw [h2]; exact hb)
    have k := stOf_ok (t := .byy a b c d t u) rfl rfl
    have p := put_sem (ls := [(partS t ls st).1, (partS u (partS t ls st).2.1 (partS t ls st).2.2).1]) (rest := (partS u (partS t ls st).2.1 (partS t ls st).2.2).2.1 ++ rest) S (g1.perm (by
      refine List.Perm.trans (List.Perm.cons _ List.perm_middle) ?_
      exact List.Perm.swap _ _ _)) k.2.1.symm k.1 E 0
    have e : colsL ([(partS t ls st).1, (partS u (partS t ls st).2.1 (partS t ls st).2.2).1].map (vlL x hs)) = List.zipWith (fun a b => [a, b]) (flow t y) (flow u y) := by
      rw [List.map_cons, List.map_singleton, v1, v2]; rfl
    rw [e, run_by] at p
    exact p
  | keep t u i1 i2 =>
    intro ls st rest y hl O E h
    have E2 : ExtS (partS u (partS t ls st).2.1 (partS t ls st).2.2).2.2 fin := (ext_put _ _ _).trans E
    have E1 : ExtS (partS t ls st).2.2 fin := (ext_part _ _ _).trans E2
    have hl' : outerN t + outerN u ≤ ls.length := hl
    obtain ⟨ha, hb⟩ := take_all (n := outerN t) (m := outerN u) (P := fun l => vlL x hs l = y) h
    obtain ⟨h1, h2, h3⟩ := partS_ok t ls st rest (by omega) O
    have v1 := i1 ls st rest y (by omega) O E1 ha
    have O2 := h1.perm (b := (partS t ls st).2.1 ++ ((partS t ls st).1 :: rest)) (by exact List.perm_middle.symm)
    have l2 : outerN u ≤ (partS t ls st).2.1.length := by rw [h2, List.length_drop]; omega
    obtain ⟨g1, g2, g3⟩ := partS_ok u (partS t ls st).2.1 (partS t ls st).2.2 ((partS t ls st).1 :: rest) l2 O2
    have v2 := i2 (partS t ls st).2.1 (partS t ls st).2.2 ((partS t ls st).1 :: rest) y l2 O2 E2 (by rw [h2]; exact hb)
    have k := stOf_ok (t := .keep t u) rfl rfl
    have p := put_sem (ls := [(partS t ls st).1, (partS u (partS t ls st).2.1 (partS t ls st).2.2).1]) (rest := (partS u (partS t ls st).2.1 (partS t ls st).2.2).2.1 ++ rest) S (g1.perm (by
      refine List.Perm.trans (List.Perm.cons _ List.perm_middle) ?_
      exact List.Perm.swap _ _ _)) k.2.1.symm k.1 E 0
    have e : colsL ([(partS t ls st).1, (partS u (partS t ls st).2.1 (partS t ls st).2.2).1].map (vlL x hs)) = List.zipWith (fun a b => [a, b]) (flow t y) (flow u y) := by
      rw [List.map_cons, List.map_singleton, v1, v2]; rfl
    rw [e, run_keep] at p
    exact p
  | thn t u i1 i2 =>
    intro ls st rest y hl O E h
    rw [partS_thn] at E ⊢
    have Ec : ExtS (copS (outerN u - 1) (partS t ls st).2.2 (partS t ls st).1).1 fin := (ext_part _ _ _).trans E
    have E1 : ExtS (partS t ls st).2.2 fin := (ext_cop _ _ _).trans Ec
    obtain ⟨h1, h2, h3⟩ := partS_ok t ls st rest hl O
    have v1 := i1 ls st rest y hl O E1 h
    obtain ⟨c1, c2, c3⟩ := copS_ok (outerN u - 1) _ _ _ h1
    have cl := copL_len (outerN u - 1) _ _ _ h1
    have up := outer_pos u
    have cs := copS_sem S (outerN u - 1) _ _ _ h1 Ec
    exact i2 (copL (outerN u - 1) (partS t ls st).2.2 (partS t ls st).1) (copS (outerN u - 1) (partS t ls st).2.2 (partS t ls st).1).1 ((partS t ls st).2.1 ++ rest) (flow t y) (by omega) c1 E
      (fun l hl => (cs l (List.mem_of_mem_take hl)).trans v1)
theorem wholeS_sem {x : List Bool} {fin : Stt} {qs : List Pipe} {hs : Hist} (S : SemF x fin qs hs) (t : Tm) (l : Ln) (st : Stt) (rest : List Ln) (O : OkS st (l :: rest)) (E : ExtS (wholeS t l st).2 fin) : vlL x hs (wholeS t l st).1 = flow t (vlL x hs l) := by
  have Ec : ExtS (copS (outerN t - 1) st l).1 fin := (ext_part _ _ _).trans E
  obtain ⟨c1, c2, c3⟩ := copS_ok (outerN t - 1) _ _ _ O
  have cl := copL_len (outerN t - 1) _ _ _ O
  have up := outer_pos t
  have cs := copS_sem S (outerN t - 1) _ _ _ O Ec
  exact partS_sem S t (copL (outerN t - 1) st l) (copS (outerN t - 1) st l).1 rest (vlL x hs l) (by omega) c1 E fun l' hl => cs l' (List.mem_of_mem_take hl)
end FY

set_option Elab.async false
set_option linter.all false
set_option maxRecDepth 100000
set_option maxHeartbeats 4000000
namespace FY
open PySem L2 FYR
/-! ## states of a yard -/
structure Sta where
  sd : List Nat
  ct : List (List Bool)
  rs : List Bool
  fl : List (List Bool)
def Rd.lines : Rd → List Nat | .one => [0] | .two => [1] | .both => [0, 1]
def ixIn (qs : List Pipe) (s l : Nat) : Nat := qs.findIdx fun p => decide (pe p = (s, l))
def txAt (qs : List Pipe) (σ : Sta) (s l : Nat) : List Bool := if (s, l) = (0, 0) then σ.rs else (σ.ct[ixIn qs s l]?).getD []
def sgAt (ts : List Stn) (σ : Sta) (s : Nat) : Sg := ((ts[s]?.getD ⟨1, 1, []⟩).stgs[(σ.sd[s]?).getD 0]?).getD ⟨.one, []⟩
def sigs (ts : List Stn) (qs : List Pipe) (σ : Sta) (s : Nat) : List Bool := ((sgAt ts σ s).reads.lines.map fun l => (txAt qs σ s l).take 1).flatten
def rowS (ts : List Stn) (qs : List Pipe) (σ : Sta) (s : Nat) : Option Rw := if (sigs ts qs σ s).length = (sgAt ts σ s).reads.lines.length then (sgAt ts σ s).rows[valB (sigs ts qs σ s)]? else none
def gvAt (r : Rw) (o : Nat) : List Bool := (r.gives[o]?).getD []
def roomS (qs : List Pipe) (σ : Sta) (s : Nat) (r : Rw) (zs : List Nat) : Bool :=
  (List.range r.gives.length).all fun o => match qs.findIdx? (fun p => decide (pb p = (s, o))) with
    | some j => decide (gvAt r o = [] ∨ ((σ.ct[j]?).getD []).length + (gvAt r o).length ≤ (zs[j]?).getD 0)
    | none => true
def canS (ts : List Stn) (qs : List Pipe) (σ : Sta) (s : Nat) (z : Option (List Nat)) : Bool := match rowS ts qs σ s with
  | none => false
  | some r => match z with | none => true | some zs => roomS qs σ s r zs
def ableS (ts : List Stn) (qs : List Pipe) (σ : Sta) (z : Option (List Nat)) : List Nat := (List.range ts.length).filter fun s => canS ts qs σ s z
def aftS (ts : List Stn) (qs : List Pipe) (ex : List (Nat × Nat)) (σ : Sta) (s : Nat) (r : Rw) : Sta where
  sd := σ.sd.set s r.goal
  ct := qs.mapIdx fun j p => (if p.2.2.1 = s ∧ p.2.2.2 ∈ (sgAt ts σ s).reads.lines then ((σ.ct[j]?).getD []).drop 1 else (σ.ct[j]?).getD []) ++ if p.1 = s then gvAt r p.2.1 else []
  rs := if s = 0 ∧ 0 ∈ (sgAt ts σ s).reads.lines then σ.rs.drop 1 else σ.rs
  fl := ex.mapIdx fun j l => (σ.fl[j]?).getD [] ++ if l.1 = s then gvAt r l.2 else []
/-! ### the state behind so many beats -/
def stA (ts : List Stn) (qs : List Pipe) (ex : List (Nat × Nat)) (x : List Bool) (k : List Nat) (hs : Hist) : Sta where
  sd := ts.mapIdx fun s t => sdH x qs k hs s t
  ct := qs.map fun p => (outH hs p.1 p.2.1).drop (kAt k p.2.2.1)
  rs := x.drop (kAt k 0)
  fl := ex.map fun l => outH hs l.1 l.2
/-- every in-line but the first has its pipe -/
def AllIn (ts : List Stn) (qs : List Pipe) : Prop := ∀ s t l, ts[s]? = some t → l < t.ins → (s, l) ≠ (0, 0) → ∃ p ∈ qs, pe p = (s, l)
theorem ixIn_at {qs : List Pipe} {s l : Nat} (h : ∃ p ∈ qs, pe p = (s, l)) : ∃ p, qs[ixIn qs s l]? = some p ∧ pe p = (s, l) ∧ qs.find? (fun p => decide (pe p = (s, l))) = some p := by
  obtain ⟨p, hp, e⟩ := h
  have hl : ixIn qs s l < qs.length := List.findIdx_lt_length_of_exists ⟨p, hp, by simpa using e⟩
  have hg := List.findIdx_getElem (p := fun p => decide (pe p = (s, l))) (xs := qs) (w := hl)
  refine ⟨qs[ixIn qs s l], List.getElem?_eq_getElem hl, of_decide_eq_true hg, ?_⟩
  rw [List.find?_eq_some_iff_getElem]
  refine ⟨hg, ixIn qs s l, hl, rfl, fun j hj => ?_⟩
  have := List.not_of_lt_findIdx (p := fun p => decide (pe p = (s, l))) (xs := qs) (i := j) hj
  simpa using this
theorem tx_st {ts : List Stn} {qs : List Pipe} {ex : List (Nat × Nat)} {x : List Bool} {k : List Nat} {hs : Hist} {s l : Nat} (h : (s, l) = (0, 0) ∨ ∃ p ∈ qs, pe p = (s, l)) : txAt qs (stA ts qs ex x k hs) s l = (inpH x qs hs s l).drop (kAt k s) := by
  unfold txAt inpH
  split
  · rename_i e
    rw [(Prod.mk.inj e).1]
    rfl
  · rename_i ne
    rcases h with h | h
    · exact absurd h ne
    · obtain ⟨p, h1, h2, h3⟩ := ixIn_at h
      rw [h3]
      show (((qs.map fun p => (outH hs p.1 p.2.1).drop (kAt k p.2.2.1))[ixIn qs s l]?).getD []) = _
      rw [List.getElem?_map, h1]
      have : p.2.2.1 = s := (Prod.mk.inj h2).1
      show (outH hs p.1 p.2.1).drop (kAt k p.2.2.1) = _
      rw [this]
theorem all_line {ts : List Stn} {qs : List Pipe} (A : AllIn ts qs) {s l : Nat} {t : Stn} (e : ts[s]? = some t) (hl : l < t.ins) : (s, l) = (0, 0) ∨ ∃ p ∈ qs, pe p = (s, l) := by
  by_cases z : (s, l) = (0, 0)
  · exact .inl z
  · exact .inr (A s t l e hl z)
theorem sg_st {ts : List Stn} {qs : List Pipe} (N : NetOk ts qs) {ex : List (Nat × Nat)} {x : List Bool} {k : List Nat} {hs : Hist} {s : Nat} {t : Stn} (e : ts[s]? = some t) :
    ∃ sg, t.stgs[sdH x qs k hs s t]? = some sg ∧ sgAt ts (stA ts qs ex x k hs) s = sg ∧ sg.reads = (if t.ins = 1 then .one else .both) := by
  have lt := sd_lt N (x := x) (k := k) (hs := hs) e
  have h1 : t.stgs[sdH x qs k hs s t]? = some t.stgs[sdH x qs k hs s t] := List.getElem?_eq_getElem lt
  refine ⟨_, h1, ?_, (N.fu t (List.mem_of_getElem? e)).al _ (List.getElem_mem lt)⟩
  unfold sgAt
  rw [e]
  have h2 : (stA ts qs ex x k hs).sd[s]? = some (sdH x qs k hs s t) := by
    show (ts.mapIdx fun s t => sdH x qs k hs s t)[s]? = _
    rw [List.getElem?_mapIdx, e]
    rfl
  rw [h2]
  show (t.stgs[sdH x qs k hs s t]?).getD _ = _
  rw [h1]
  rfl
theorem take1 {α : Type} (x : List α) (k : Nat) : (x.drop k).take 1 = (x[k]?).toList := by
  cases e : x[k]? with
  | none => rw [List.drop_of_length_le (List.getElem?_eq_none_iff.mp e)]; rfl
  | some a =>
    obtain ⟨h, e⟩ := List.getElem?_eq_some_iff.mp e
    rw [List.drop_eq_getElem_cons h, e]
    rfl
theorem sigs_st {ts : List Stn} {qs : List Pipe} (N : NetOk ts qs) (A : AllIn ts qs) {ex : List (Nat × Nat)} {x : List Bool} {k : List Nat} {hs : Hist} {s : Nat} {t : Stn} (e : ts[s]? = some t) :
    ((sigs ts qs (stA ts qs ex x k hs) s).length = (sgAt ts (stA ts qs ex x k hs) s).reads.lines.length ↔ kAt k s < (colH x qs hs s t.ins).length) ∧
      (kAt k s < (colH x qs hs s t.ins).length → sigs ts qs (stA ts qs ex x k hs) s = nxH x qs k hs s t) := by
  obtain ⟨sg, h1, h2, h3⟩ := sg_st N (ex := ex) (x := x) (k := k) (hs := hs) e
  unfold sigs
  rw [h2, h3]
  unfold nxH
  rcases (N.fu t (List.mem_of_getElem? e)).ins with i | i
  · rw [if_pos i, i]
    have l0 := tx_st (ts := ts) (ex := ex) (x := x) (k := k) (hs := hs) (all_line A e (l := 0) (by omega))
    show (([0].map fun l => (txAt qs (stA ts qs ex x k hs) s l).take 1).flatten.length = 1 ↔ _ < ((inpH x qs hs s 0).map fun b => [b]).length) ∧ (_ < ((inpH x qs hs s 0).map fun b => [b]).length → ([0].map fun l => (txAt qs (stA ts qs ex x k hs) s l).take 1).flatten = (((inpH x qs hs s 0).map fun b => [b])[kAt k s]?).getD [])
    simp only [List.map_cons, List.map_nil, List.flatten_cons, List.flatten_nil, List.append_nil, l0, take1, List.length_map, List.getElem?_map]
    cases z : (inpH x qs hs s 0)[kAt k s]? with
    | none =>
      have := List.getElem?_eq_none_iff.mp z
      simp
      omega
    | some b =>
      have := (List.getElem?_eq_some_iff.mp z).1
      simp [this]
  · rw [if_neg (by omega), i]
    have l0 := tx_st (ts := ts) (ex := ex) (x := x) (k := k) (hs := hs) (all_line A e (l := 0) (by omega))
    have l1 := tx_st (ts := ts) (ex := ex) (x := x) (k := k) (hs := hs) (all_line A e (l := 1) (by omega))
    show (([0, 1].map fun l => (txAt qs (stA ts qs ex x k hs) s l).take 1).flatten.length = 2 ↔ _ < (List.zipWith (fun a b => [a, b]) (inpH x qs hs s 0) (inpH x qs hs s 1)).length) ∧ (_ < (List.zipWith (fun a b => [a, b]) (inpH x qs hs s 0) (inpH x qs hs s 1)).length → ([0, 1].map fun l => (txAt qs (stA ts qs ex x k hs) s l).take 1).flatten = ((List.zipWith (fun a b => [a, b]) (inpH x qs hs s 0) (inpH x qs hs s 1))[kAt k s]?).getD [])
    simp only [List.map_cons, List.map_nil, List.flatten_cons, List.flatten_nil, List.append_nil, l0, l1, take1, List.length_zipWith, List.getElem?_zipWith, List.length_append]
    cases z : (inpH x qs hs s 0)[kAt k s]? with
    | none =>
      have := List.getElem?_eq_none_iff.mp z
      cases y : (inpH x qs hs s 1)[kAt k s]? with
      | none => simp; omega
      | some b => simp; omega
    | some a =>
      have := (List.getElem?_eq_some_iff.mp z).1
      cases y : (inpH x qs hs s 1)[kAt k s]? with
      | none =>
        have := List.getElem?_eq_none_iff.mp y
        simp
        omega
      | some b =>
        have := (List.getElem?_eq_some_iff.mp y).1
        simp
        omega
theorem row_st {ts : List Stn} {qs : List Pipe} (N : NetOk ts qs) (A : AllIn ts qs) {ex : List (Nat × Nat)} {x : List Bool} {k : List Nat} {hs : Hist} {s : Nat} {t : Stn} (e : ts[s]? = some t) :
    rowS ts qs (stA ts qs ex x k hs) s = if kAt k s < (colH x qs hs s t.ins).length then some (rwH x qs k hs s t) else none := by
  obtain ⟨a, b⟩ := sigs_st N A (ex := ex) (x := x) (k := k) (hs := hs) e
  obtain ⟨sg, h1, h2, h3⟩ := sg_st N (ex := ex) (x := x) (k := k) (hs := hs) e
  unfold rowS
  by_cases z : kAt k s < (colH x qs hs s t.ins).length
  · rw [if_pos (a.mpr z), if_pos z, b z, h2]
    unfold rwH rowC
    rw [h1]
    have fu := N.fu t (List.mem_of_getElem? e)
    have hm : sg ∈ t.stgs := List.mem_of_getElem? h1
    obtain ⟨_, hl, _⟩ := fu.ok.sg _ hm
    have hc := nx_len N e z
    have hv : valB (nxH x qs k hs s t) < sg.rows.length := by
      rw [hl, h3]
      rcases fu.ins with i | i
      · rw [if_pos i]
        rw [i] at hc
        match nxH x qs k hs s t, hc with
        | [a], _ => cases a <;> decide
      · rw [if_neg (by omega)]
        rw [i] at hc
        match nxH x qs k hs s t, hc with
        | [a, b], _ => cases a <;> cases b <;> decide
    show sg.rows[valB _]? = some ((sg.rows[valB _]?).getD _)
    rw [List.getElem?_eq_getElem hv]
    rfl
  · rw [if_neg (fun y => z (a.mp y)), if_neg z]
theorem mem_lines_full {t : Stn} {sg : Sg} (h3 : sg.reads = (if t.ins = 1 then .one else .both)) (hi : t.ins = 1 ∨ t.ins = 2) (l : Nat) : l ∈ sg.reads.lines ↔ l < t.ins := by
  rw [h3]
  rcases hi with i | i
  · rw [if_pos i, i]
    simp [Rd.lines]
  · rw [if_neg (by omega), i]
    simp only [Rd.lines, List.mem_cons, List.not_mem_nil, or_false]
    omega
theorem cols_le {n : Nat} (hn : n = 1 ∨ n = 2) (x : List Bool) (qs : List Pipe) (hs : Hist) (s : Nat) {l : Nat} (hl : l < n) : (colH x qs hs s n).length ≤ (inpH x qs hs s l).length := by
  rcases hn with rfl | rfl
  · obtain rfl : l = 0 := by omega
    simp [colH, colsL]
  · show (List.zipWith _ (inpH x qs hs s 0) (inpH x qs hs s 1)).length ≤ _
    rw [List.length_zipWith]
    have : l = 0 ∨ l = 1 := by omega
    rcases this with rfl | rfl <;> omega
theorem find_nd {qs : List Pipe} (nd : (qs.map pe).Nodup) {p : Pipe} (hp : p ∈ qs) : qs.find? (fun q => decide (pe q = pe p)) = some p := by
  obtain ⟨p', h1, h2, h3⟩ := ixIn_at (qs := qs) (s := (pe p).1) (l := (pe p).2) ⟨p, hp, rfl⟩
  obtain ⟨j, hj⟩ := List.mem_iff_getElem?.mp hp
  have := nd_at nd h1 hj (by rw [h2])
  rw [this, hj] at h1
  obtain rfl : p = p' := Option.some.inj h1
  exact h3
/-- a beat -/
theorem aft_st {ts : List Stn} {qs : List Pipe} (N : NetOk ts qs) (A : AllIn ts qs) (far : ∀ p ∈ qs, ∃ t, ts[p.2.2.1]? = some t ∧ p.2.2.2 < t.ins) (nd : (qs.map pe).Nodup) {ex : List (Nat × Nat)} {x : List Bool} {k : List Nat} {hs : Hist} (R : Rch ts qs x k hs) {s : Nat} {t : Stn} (e : ts[s]? = some t) (h : kAt k s < (colH x qs hs s t.ins).length) :
    aftS ts qs ex (stA ts qs ex x k hs) s (rwH x qs k hs s t) = stA ts qs ex x (kUp k s) (hUp hs s (rwH x qs k hs s t)) := by
  obtain ⟨sg, h1, h2, h3⟩ := sg_st N (ex := ex) (x := x) (k := k) (hs := hs) e
  have fu := N.fu t (List.mem_of_getElem? e)
  have hk : s < k.length := by rw [R.lk]; exact lt_of_get e
  have kU : ∀ s', kAt (kUp k s) s' = if s' = s then kAt k s + 1 else kAt k s' := kAt_set hk
  have up := R.up_out N e h
  have ml := mem_lines_full h3 fu.ins
  unfold aftS
  rw [h2]
  show Sta.mk _ _ _ _ = Sta.mk _ _ _ _
  congr 1
  · refine List.ext_getElem? fun j => ?_
    show ((ts.mapIdx fun s t => sdH x qs k hs s t).set s _)[j]? = (ts.mapIdx fun s' t' => sdH x qs (kUp k s) (hUp hs s (rwH x qs k hs s t)) s' t')[j]?
    rw [List.getElem?_set, List.getElem?_mapIdx, List.getElem?_mapIdx, List.length_mapIdx]
    cases z : ts[j]? with
    | none =>
      have : ¬ s = j := fun y => by rw [← y, e] at z; cases z
      rw [if_neg this]
      rfl
    | some t' =>
      have u := R.up_sd N e h z
      by_cases y : s = j
      · subst y
        rw [if_pos rfl, if_pos (lt_of_get e)]
        rw [if_pos rfl] at u
        exact congrArg some u.symm
      · rw [if_neg y]
        rw [if_neg (fun w => y w.symm)] at u
        exact congrArg some u.symm
  · refine List.ext_getElem? fun j => ?_
    rw [List.getElem?_mapIdx, List.getElem?_map]
    cases z : qs[j]? with
    | none => rfl
    | some p =>
      have hp := List.mem_of_getElem? z
      have c0 : ((stA ts qs ex x k hs).ct[j]?).getD [] = (outH hs p.1 p.2.1).drop (kAt k p.2.2.1) := by
        show ((qs.map fun p => (outH hs p.1 p.2.1).drop (kAt k p.2.2.1))[j]?).getD [] = _
        rw [List.getElem?_map, z]
        rfl
      simp only [Option.map_some]
      rw [c0, up, kU]
      obtain ⟨t2, e2, l2⟩ := far p hp
      have lt := N.lt p hp
      congr 1
      by_cases y : p.2.2.1 = s
      · have hy : p.1 ≠ s := by omega
        obtain rfl : t2 = t := by rw [y, e] at e2; exact (Option.some.inj e2).symm
        rw [if_pos ⟨y, (ml _).mpr l2⟩, if_neg hy, if_neg hy, if_pos y, List.append_nil, List.append_nil, List.drop_drop, y]
      · rw [if_neg (fun w => y w.1), if_neg y]
        by_cases w : p.1 = s
        · rw [if_pos w, if_pos w]
          have l3 : kAt k p.2.2.1 ≤ (outH hs p.1 p.2.1).length := by
            have r := R.le _ _ e2
            have c := cols_le (N.fu t2 (List.mem_of_getElem? e2)).ins x qs hs p.2.2.1 l2
            have i : inpH x qs hs p.2.2.1 p.2.2.2 = outH hs p.1 p.2.1 := by
              unfold inpH
              rw [if_neg (fun w => by have := (Prod.mk.inj w).1; omega)]
              have f := find_nd nd hp
              have f' : qs.find? (fun q => decide (pe q = (p.2.2.1, p.2.2.2))) = some p := f
              rw [f']
            rw [i] at c
            omega
          rw [List.drop_append_of_le_length l3]
          rfl
        · rw [if_neg w, if_neg w, List.append_nil, List.append_nil]
  · show (if s = 0 ∧ _ then (x.drop (kAt k 0)).drop 1 else x.drop (kAt k 0)) = x.drop (kAt (kUp k s) 0)
    rw [kU]
    have i1 := fu.ok.i1
    by_cases y : s = 0
    · subst y
      rw [if_pos ⟨rfl, (ml 0).mpr (by omega)⟩, if_pos rfl, List.drop_drop]
    · rw [if_neg (fun w => y w.1), if_neg (fun w => y w.symm)]
  · refine List.ext_getElem? fun j => ?_
    rw [List.getElem?_mapIdx, List.getElem?_map]
    cases z : ex[j]? with
    | none => rfl
    | some l =>
      have c0 : ((stA ts qs ex x k hs).fl[j]?).getD [] = outH hs l.1 l.2 := by
        show ((ex.map fun l => outH hs l.1 l.2)[j]?).getD [] = _
        rw [List.getElem?_map, z]
        rfl
      simp only [Option.map_some]
      rw [c0, up]
      rfl
end FY

set_option Elab.async false
set_option linter.all false
set_option maxRecDepth 100000
set_option maxHeartbeats 4000000
namespace FY
open PySem L2 FYR
theorem nodup_exit {bs ls : List (Nat × Nat)} {x : Nat × Nat} (hp : (bs ++ [x]).Perm ls) (hn : ls.Nodup) : (ls.filter fun l => !decide (l ∈ bs)).length = 1 := by
  have n1 : (bs ++ [x]).Nodup := hp.symm.nodup hn
  obtain ⟨_, _, dis⟩ := List.nodup_append.mp n1
  have hx : x ∉ bs := fun z => dis x z x (by simp) rfl
  have e := (hp.filter fun l => !decide (l ∈ bs)).length_eq
  rw [← e, List.filter_append, List.filter_eq_nil_iff.mpr (by intro a ha; simp [ha]), List.filter_cons_of_pos (by simpa using hx)]
  rfl
theorem okS_yd {st : Stt} {l : Ln} (h : OkS st [l]) (hne : st.1 ≠ []) (hl : st.1.length ≤ 12) : YdOk st.1 st.2 ∧ (exitsOf st.1 st.2).length = 1 := by
  obtain ⟨ts, ps⟩ := st
  cases l with
  | none => exact absurd (h.ent (by simp)) hne
  | some x =>
    have hb : (ps.map pb ++ [x]).Perm (linesFrom 0 ts) := h.beg
    have ex := nodup_exit hb (lines_nodup 0 ts)
    have nb : (ps.map pb).Nodup := (List.nodup_append.mp (hb.symm.nodup (lines_nodup 0 ts))).1
    have cn : ps.length + 1 = sumIns ts := h.cnt
    have si : ∀ us : List Stn, (∀ t ∈ us, t.ok) → sumIns us ≤ 2 * us.length := by
      intro us
      induction us with
      | nil => intro _; exact Nat.le_refl 0
      | cons t r ih =>
        intro hu
        have := ih fun z hz => hu z (List.mem_cons_of_mem _ hz)
        have := (hu t (List.mem_cons_self ..)).i2
        simp only [sumIns, List.length_cons]
        omega
    have s2 := si ts h.okk
    have m1 : 1 ≤ ts.length := by
      cases ts with
      | nil => exact absurd rfl hne
      | cons _ _ => simp
    have hl' : ts.length ≤ 12 := hl
    refine ⟨⟨m1, hl, h.fst, h.okk, fun p hp => ?_, nb, h.ends, Nat.le_of_eq cn.symm, by show ps.length < 64; omega, by show (exitsOf ts ps).length ≤ 3; have : (exitsOf ts ps).length = 1 := ex; omega, .inr (Nat.le_of_eq ex)⟩, ex⟩
    obtain ⟨lt, t2, g2, b2⟩ := h.far p hp
    have hm : pb p ∈ linesFrom 0 ts := hb.mem_iff.mp (List.mem_append_left _ (List.mem_map_of_mem hp))
    obtain ⟨i, t1, g1, e1, b1⟩ := mem_lines hm
    have e1' : p.1 = i := by rw [Nat.zero_add] at e1; exact e1
    subst e1'
    exact ⟨lt, ⟨t1, g1, b1, (h.okk t1 (List.mem_of_getElem? g1)).o2⟩, ⟨t2, g2, b2, (h.okk t2 (List.mem_of_getElem? g2)).i2⟩⟩
abbrev wst (t : Tm) : Stt := (wholeS t none ([], [])).2
theorem fin_ok (t : Tm) (h : t.nodes ≤ 9) : stOk (wst t) ∧ YdOk (finS (wst t)).1 (finS (wst t)).2 ∧ (exitsOf (finS (wst t)).1 (finS (wst t)).2).length = 1 := by
  obtain ⟨ok, len⟩ := wholeS_ok t none ([], []) [] OkS.start
  by_cases e : (wst t).1 = []
  · refine ⟨.inl e, ?_⟩
    have : finS (wst t) = ([passSt], []) := by unfold finS; rw [if_pos e]
    rw [this]
    exact ⟨pass_yd, rfl⟩
  · have : finS (wst t) = wst t := by unfold finS; rw [if_neg e]
    have len' : (wst t).1.length + 1 ≤ 0 + t.nodes := len
    obtain ⟨a, b⟩ := okS_yd ok e (by show (wst t).1.length ≤ 12; omega)
    rw [this]
    exact ⟨.inr a, a, b⟩

/-! ### the compiled net -/
structure NetS (st : Stt) : Prop where
  fu : ∀ t ∈ st.1, t.full
  al : AllIn st.1 st.2
theorem NetS.start : NetS ([], []) := ⟨fun _ h => by simp at h, fun s t l e => by simp at e⟩
theorem NetS.put {st : Stt} {ls rest : List Ln} {t : Stn} (n : NetS st) (O : OkS st (ls ++ rest)) (hl : ls.length = t.ins) (ht : t.full) : NetS (putS st t ls) := by
  obtain ⟨ts, ps⟩ := st
  have P := O.put hl ht.ok
  refine ⟨fun u hu => ?_, fun s u l e hl2 ne => ?_⟩
  · rcases List.mem_append.mp hu with hu | hu
    · exact n.fu u hu
    · rw [List.mem_singleton.mp hu]; exact ht
  · have e' : (ts ++ [t])[s]? = some u := e
    by_cases z : s < ts.length
    · rw [List.getElem?_append_left z] at e'
      obtain ⟨p, hp, e2⟩ := n.al s u l e' hl2 ne
      exact ⟨p, List.mem_append_left _ hp, e2⟩
    · have hs : s = ts.length := by
        have := (List.getElem?_eq_some_iff.mp e').1
        simp only [List.length_append, List.length_singleton] at this
        omega
      subst hs
      have : t = u := by simpa using e'
      subst this
      have hl1 : l < ls.length := by omega
      cases y : ls[l] with
      | none =>
        have hn : none ∈ ls ++ rest := List.mem_append_left _ (y ▸ List.getElem_mem hl1)
        have t0 : ts = [] := O.ent hn
        have i1 := P.fst t (by subst t0; rfl)
        subst t0
        obtain rfl : l = 0 := by omega
        exact absurd rfl ne
      | some a => exact ⟨(a.1, a.2, ts.length, 0 + l), List.mem_append_right _ (pipes_mem ts.length 0 ls l a (by rw [List.getElem?_eq_getElem hl1, y])), by simp [pe]⟩
theorem NetS.cop : ∀ (k : Nat) (st : Stt) (l : Ln) (rest : List Ln), NetS st → OkS st (l :: rest) → NetS (copS k st l).1
  | 0, st, l, rest, n, O => n
  | k + 1, st, l, rest, n, O => by
    have ih := NetS.cop k st l rest n O
    obtain ⟨h1, h2, h3⟩ := copS_ok k st l rest O
    have h4 : OkS (copS k st l).1 ([(copS k st l).2.2] ++ ((copS k st l).2.1 ++ rest)) := h1.perm (by
      unfold copL
      rw [← List.append_assoc]
      exact List.Perm.append_right _ List.perm_append_comm)
    exact ih.put h4 rfl full_copy
theorem NetS.part : ∀ (t : Tm) (ls : List Ln) (st : Stt) (rest : List Ln), outerN t ≤ ls.length → NetS st → OkS st (ls ++ rest) → NetS (partS t ls st).2.2 := by
  intro t
  induction t with
  | inn => intro ls st rest hl n O; exact n
  | one w t ih =>
    intro ls st rest hl n O
    obtain ⟨h1, h2, h3⟩ := partS_ok t ls st rest hl O
    exact (ih ls st rest hl n O).put (ls := [(partS t ls st).1]) (rest := (partS t ls st).2.1 ++ rest) h1 rfl (full_st (t := .one w t) rfl rfl)
  | late w t ih =>
    intro ls st rest hl n O
    obtain ⟨h1, h2, h3⟩ := partS_ok t ls st rest hl O
    exact (ih ls st rest hl n O).put (ls := [(partS t ls st).1]) (rest := (partS t ls st).2.1 ++ rest) h1 rfl (full_st (t := .late w t) rfl rfl)
  | byy a b c d t u i1 i2 =>
    intro ls st rest hl n O
    have hl' : outerN t + outerN u ≤ ls.length := hl
    obtain ⟨h1, h2, h3⟩ := partS_ok t ls st rest (by omega) O
    have O2 := h1.perm (b := (partS t ls st).2.1 ++ ((partS t ls st).1 :: rest)) (by exact List.perm_middle.symm)
    have l2 : outerN u ≤ (partS t ls st).2.1.length := by rw [h2, List.length_drop]; omega
    obtain ⟨g1, g2, g3⟩ := partS_ok u (partS t ls st).2.1 (partS t ls st).2.2 ((partS t ls st).1 :: rest) l2 O2
    exact (i2 _ _ _ l2 (i1 ls st rest (by omega) n O) O2).put (ls := [(partS t ls st).1, (partS u (partS t ls st).2.1 (partS t ls st).2.2).1]) (rest := (partS u (partS t ls st).2.1 (partS t ls st).2.2).2.1 ++ rest) (g1.perm (by
      refine List.Perm.trans (List.Perm.cons _ List.perm_middle) ?_
      exact List.Perm.swap _ _ _)) rfl (full_st (t := .byy a b c d t u) rfl rfl)
  | keep t u i1 i2 =>
    intro ls st rest hl n O
    have hl' : outerN t + outerN u ≤ ls.length := hl
    obtain ⟨h1, h2, h3⟩ := partS_ok t ls st rest (by omega) O
    have O2 := h1.perm (b := (partS t ls st).2.1 ++ ((partS t ls st).1 :: rest)) (by exact List.perm_middle.symm)
    have l2 : outerN u ≤ (partS t ls st).2.1.length := by rw [h2, List.length_drop]; omega
    obtain ⟨g1, g2, g3⟩ := partS_ok u (partS t ls st).2.1 (partS t ls st).2.2 ((partS t ls st).1 :: rest) l2 O2
    exact (i2 _ _ _ l2 (i1 ls st rest (by omega) n O) O2).put (ls := [(partS t ls st).1, (partS u (partS t ls st).2.1 (partS t ls st).2.2).1]) (rest := (partS u (partS t ls st).2.1 (partS t ls st).2.2).2.1 ++ rest) (g1.perm (by
      refine List.Perm.trans (List.Perm.cons _ List.perm_middle) ?_
      exact List.Perm.swap _ _ _)) rfl (full_st (t := .keep t u) rfl rfl)
  | thn t u i1 i2 =>
    intro ls st rest hl n O
    rw [partS_thn]
    obtain ⟨h1, h2, h3⟩ := partS_ok t ls st rest hl O
    obtain ⟨c1, c2, c3⟩ := copS_ok (outerN u - 1) _ _ _ h1
    have cl := copL_len (outerN u - 1) _ _ _ h1
    have up := outer_pos u
    exact i2 (copL (outerN u - 1) (partS t ls st).2.2 (partS t ls st).1) (copS (outerN u - 1) (partS t ls st).2.2 (partS t ls st).1).1 ((partS t ls st).2.1 ++ rest) (by omega) (NetS.cop _ _ _ _ (i1 ls st rest hl n O) h1) c1
theorem NetS.whole (t : Tm) (l : Ln) (st : Stt) (rest : List Ln) (n : NetS st) (O : OkS st (l :: rest)) : NetS (wholeS t l st).2 := by
  obtain ⟨c1, c2, c3⟩ := copS_ok (outerN t - 1) _ _ _ O
  have cl := copL_len (outerN t - 1) _ _ _ O
  have up := outer_pos t
  exact NetS.part t (copL (outerN t - 1) st l) (copS (outerN t - 1) st l).1 rest (by omega) (NetS.cop _ _ _ _ n O) c1
/-- all that is asked of a compiled yard -/
structure CompN (t : Tm) (ts : List Stn) (ps : List Pipe) : Prop where
  net : NetOk ts (srt ps)
  al : AllIn ts (srt ps)
  far : ∀ p ∈ srt ps, ∃ u, ts[p.2.2.1]? = some u ∧ p.2.2.2 < u.ins
  nd : ((srt ps).map pe).Nodup
  len : ts.length + 1 ≤ max 2 t.nodes
  one : 1 ≤ ts.length
  ex : ∃ e, exitsOf ts ps = [e] ∧ ∀ x K Hs, Rch ts (srt ps) x K Hs → FullR ts (srt ps) x K Hs → outH Hs e.1 e.2 = flow t x
theorem exits_one {st : Stt} {l : Nat × Nat} (O : OkS st [some l]) : exitsOf st.1 st.2 = [l] := by
  have hb : (st.2.map pb ++ [l]).Perm (linesFrom 0 st.1) := O.beg
  have len := nodup_exit hb (lines_nodup 0 st.1)
  have n1 : (st.2.map pb ++ [l]).Nodup := hb.symm.nodup (lines_nodup 0 st.1)
  obtain ⟨_, _, dis⟩ := List.nodup_append.mp n1
  have hm : l ∈ exitsOf st.1 st.2 := List.mem_filter.mpr ⟨hb.mem_iff.mp (by simp), by
    simp only [Bool.not_eq_true', decide_eq_false_iff_not]
    exact fun z => dis l z l (by simp) rfl⟩
  match q : exitsOf st.1 st.2, hm with
  | [a], hm => rw [List.mem_singleton.mp hm]
  | a :: b :: r, _ =>
    have : (exitsOf st.1 st.2).length = 1 := len
    rw [q] at this
    simp at this
theorem comp_net (t : Tm) : CompN t (finS (wst t)).1 (finS (wst t)).2 := by
  obtain ⟨ok, len⟩ := wholeS_ok t none ([], []) [] OkS.start
  have ns := NetS.whole t none ([], []) [] NetS.start OkS.start
  by_cases e : (wst t).1 = []
  · have : finS (wst t) = ([passSt], []) := by unfold finS; rw [if_pos e]
    rw [this]
    have se : srt [] = [] := by unfold srt; simp
    -- nothing was built: the flow is the stream
    have fl : ∀ x, flow t x = x := by
      intro x
      have o := ok
      have hl : (wholeS t none ([], [])).1 = none := by
        cases z : (wholeS t none ([], [])).1 with
        | none => rfl
        | some l =>
          have hb := o.beg
          rw [z] at hb
          have hm : l ∈ linesFrom 0 (wst t).1 := hb.mem_iff.mp (by simp)
          rw [e] at hm
          simp [linesFrom] at hm
      have S : SemF x (wst t) (wst t).2 [] := ⟨fun p hp => by
        have hb := o.beg
        have hm : pb p ∈ linesFrom 0 (wst t).1 := hb.mem_iff.mp (List.mem_append_left _ (List.mem_map_of_mem hp))
        rw [e] at hm
        simp [linesFrom] at hm, fun s u hs => by rw [e] at hs; simp at hs⟩
      have v := wholeS_sem S t none ([], []) [] OkS.start (ExtS.refl _)
      rw [hl] at v
      exact v.symm
    refine ⟨⟨fun u hu => by rw [List.mem_singleton.mp hu]; exact full_pass, fun p hp => by rw [se] at hp; simp at hp, fun u hu => by
        have : passSt = u := by simpa using hu
        rw [← this]; rfl⟩, fun s u l h1 h2 h3 => ?_, fun p hp => by rw [se] at hp; simp at hp, by rw [se]; exact List.nodup_nil, by show 1 + 1 ≤ _; exact Nat.le_max_left _ _, Nat.le_refl 1, (0, 0), by decide, fun x K Hs R F => ?_⟩
    · cases s with
      | zero =>
        have : passSt = u := by simpa using h1
        subst this
        have : l = 0 := by have h4 : l < 1 := h2; omega
        subst this
        exact absurd rfl h3
      | succ s => simp at h1
    · have h0 : ([passSt] : List Stn)[0]? = some passSt := rfl
      rw [R.out h0, fl]
      have k0 := F 0 passSt h0
      have c : colH x (srt []) Hs 0 passSt.ins = x.map fun b => [b] := rfl
      rw [k0, List.take_length, c, run_pass]
      rfl
  · have : finS (wst t) = wst t := by unfold finS; rw [if_neg e]
    rw [this]
    have nd : ((srt (wst t).2).map pe).Nodup := ((srt_perm _).map pe).symm.nodup ok.ends
    have len' : (wst t).1.length + 1 ≤ 0 + t.nodes := len
    have mem : ∀ p, p ∈ srt (wst t).2 ↔ p ∈ (wst t).2 := fun p => (srt_perm _).mem_iff
    cases z : (wholeS t none ([], [])).1 with
    | none =>
      have : none ∈ [(wholeS t none ([], [])).1] := by rw [z]; simp
      exact absurd (ok.ent this) e
    | some l =>
      have ok' : OkS (wst t) [some l] := by have o := ok; rw [z] at o; exact o
      refine ⟨⟨ns.fu, fun p hp => (ok.far p ((mem p).mp hp)).1, ok.fst⟩, fun s u l h1 h2 h3 => ?_, fun p hp => (ok.far p ((mem p).mp hp)).2, nd, Nat.le_trans (by omega) (Nat.le_max_right 2 t.nodes), ?_, l, exits_one ok', fun x K Hs R F => ?_⟩
      · obtain ⟨p, hp, e2⟩ := ns.al s u l h1 h2 h3
        exact ⟨p, (mem p).mpr hp, e2⟩
      · cases y : (wst t).1 with
        | nil => exact absurd y e
        | cons _ _ => simp
      · have S : SemF x (wst t) (srt (wst t).2) Hs := ⟨fun p hp => find_nd nd ((mem p).mpr hp), fun s u hs => by
          rw [R.at_ s u hs, F s u hs, List.take_length]⟩
        have v := wholeS_sem S t none ([], []) [] OkS.start (ExtS.refl _)
        rw [z] at v
        exact v
end FY

set_option Elab.async false
set_option linter.all false
set_option maxRecDepth 100000
set_option maxHeartbeats 4000000
namespace FY
open FYR
/-! ### runs as lists of stations -/
def CanK (ts : List Stn) (qs : List Pipe) (x : List Bool) (k : List Nat) (s : Nat) : Prop := ∃ hs t, Rch ts qs x k hs ∧ ts[s]? = some t ∧ kAt k s < (colH x qs hs s t.ins).length
inductive RunK (ts : List Stn) (qs : List Pipe) (x : List Bool) : List Nat → List Nat → List Nat → Prop
  | nil (k : List Nat) : RunK ts qs x k [] k
  | cons {k k' r : List Nat} {s : Nat} : CanK ts qs x k s → RunK ts qs x (kUp k s) r k' → RunK ts qs x k (s :: r) k'
inductive LeastK (ts : List Stn) (qs : List Pipe) (x : List Bool) : List Nat → List Nat → List Nat → Prop
  | nil (k : List Nat) : LeastK ts qs x k [] k
  | cons {k k' r : List Nat} {s : Nat} : CanK ts qs x k s → (∀ s' < s, ¬ CanK ts qs x k s') → LeastK ts qs x (kUp k s) r k' → LeastK ts qs x k (s :: r) k'
def FullK (ts : List Stn) (qs : List Pipe) (x : List Bool) (k : List Nat) : Prop := ∀ s, ¬ CanK ts qs x k s
variable {ts : List Stn} {qs : List Pipe} {x : List Bool}
theorem LeastK.run {k r k' : List Nat} (h : LeastK ts qs x k r k') : RunK ts qs x k r k' := by
  induction h with
  | nil k => exact .nil k
  | cons c _ _ ih => exact .cons c ih
theorem RunK.snoc {k r k' : List Nat} (h : RunK ts qs x k r k') {s : Nat} (c : CanK ts qs x k' s) : RunK ts qs x k (r ++ [s]) (kUp k' s) := by
  induction h with
  | nil k => exact .cons c (.nil _)
  | cons d _ ih => exact .cons d (ih c)
theorem LeastK.snoc {k r k' : List Nat} (h : LeastK ts qs x k r k') {s : Nat} (c : CanK ts qs x k' s) (l : ∀ s' < s, ¬ CanK ts qs x k' s') : LeastK ts qs x k (r ++ [s]) (kUp k' s) := by
  induction h with
  | nil k => exact .cons c l (.nil _)
  | cons d e _ ih => exact .cons d e (ih c l)
theorem least_lex {k F k1 : List Nat} (h : LeastK ts qs x k F k1) : ∀ {G k2 : List Nat}, RunK ts qs x k G k2 → FullK ts qs x k2 → lexI (G.map Int.ofNat) (F.map Int.ofNat) = false := by
  induction h with
  | nil k => intro G k2 _ _; cases G <;> rfl
  | @cons k0 k9 r0 s c l _ ih =>
    intro G k2 g f
    cases g with
    | nil => exact absurd c (f _)
    | @cons _ _ r9 b d g' =>
      show (if Int.ofNat b = Int.ofNat s then lexI (r9.map Int.ofNat) (r0.map Int.ofNat) else decide (Int.ofNat b < Int.ofNat s)) = false
      by_cases z : b = s
      · subst z
        rw [if_pos rfl]
        exact ih g' f
      · have : ¬ b < s := fun y => l b y d
        rw [if_neg (fun y => z (Int.ofNat.inj y))]
        exact decide_eq_false (fun y => this (Int.ofNat_lt.mp y))
theorem can_lt {k : List Nat} {s : Nat} (c : CanK ts qs x k s) : s < k.length := by
  obtain ⟨hs, t, R, e, _⟩ := c
  rw [R.lk]
  exact lt_of_get e
theorem RunK.sum {k r k' : List Nat} (h : RunK ts qs x k r k') : k'.sum = k.sum + r.length := by
  induction h with
  | nil k => simp
  | cons c _ ih =>
    rw [ih, sum_up (can_lt c)]
    simp
    omega
theorem RunK.count {k r k' : List Nat} (h : RunK ts qs x k r k') : ∀ s, kAt k' s = kAt k s + r.count s := by
  induction h with
  | nil k => intro s; simp
  | @cons k0 k9 r0 a c _ ih =>
    intro s
    rw [ih s, show kAt (kUp k0 a) s = if s = a then kAt k0 a + 1 else kAt k0 s from kAt_set (can_lt c) s, List.count_cons]
    by_cases z : s = a
    · subst z
      rw [if_pos rfl]
      simp
      omega
    · rw [if_neg z]
      have : (a == s) = false := by simpa using fun y => z y.symm
      simp [this]
theorem RunK.rch (N : NetOk ts qs) {k r k' : List Nat} (h : RunK ts qs x k r k') {hs : Hist} (R : Rch ts qs x k hs) : ∃ hs', Rch ts qs x k' hs' := by
  induction h generalizing hs with
  | nil k => exact ⟨hs, R⟩
  | cons c _ ih =>
    obtain ⟨hs0, t, R0, e, l⟩ := c
    exact ih (R0.step N e l)
theorem RunK.perm {k r r' k' : List Nat} (h : RunK ts qs x k r k') (h' : RunK ts qs x k r' k') : r.Perm r' :=
  List.perm_iff_count.mpr fun s => by
    have := h.count s
    have := h'.count s
    omega
theorem full_fullR (N : NetOk ts qs) {k : List Nat} {hs : Hist} (R : Rch ts qs x k hs) (f : FullK ts qs x k) : FullR ts qs x k hs := fun s t e => by
  have h1 := R.le s t e
  have h2 : ¬ kAt k s < (colH x qs hs s t.ins).length := fun l => f s ⟨hs, t, R, e, l⟩
  omega
theorem can_iff (N : NetOk ts qs) {k : List Nat} {hs : Hist} (R : Rch ts qs x k hs) {s : Nat} {t : Stn} (e : ts[s]? = some t) : CanK ts qs x k s ↔ kAt k s < (colH x qs hs s t.ins).length :=
  ⟨fun ⟨hs', t', R', e', l⟩ => by
    obtain rfl : t' = t := Option.some.inj (e'.symm.trans e)
    rw [R.same N R']
    exact l, fun l => ⟨hs, t, R, e, l⟩⟩
theorem sorted_eq {a b c d : List Int} (h : c.Perm a) (h' : d.Perm b) (p : a.Perm b) (s : c.Pairwise (· ≤ ·)) (s' : d.Pairwise (· ≤ ·)) : c = d :=
  List.Perm.eq_of_pairwise (le := (· ≤ ·)) (fun x y _ _ h1 h2 => Int.le_antisymm h1 h2) s s' ((h.trans p).trans h'.symm)
end FY

set_option Elab.async false
set_option linter.all false
set_option maxRecDepth 100000
set_option maxHeartbeats 4000000
namespace FY
open PySem L2 FYR
def nV (ns : List Nat) : List V := ns.map fun (n : Nat) => V.int (n : Nat)
def tV (bs : List (List Bool)) : List V := bs.map fun b => V.str (tx b)
/-- the state σ as the text has it -/
def StaA (H : Hp) (v : V) (σ : Sta) : Prop := ∃ a p q r, v = .ref a ∧ H a = some (.tup [.ref p, .ref q, .str (tx σ.rs), .ref r]) ∧ H p = some (.tup (nV σ.sd)) ∧ H q = some (.tup (tV σ.ct)) ∧ H r = some (.tup (tV σ.fl))
theorem StaA.keep {H H' : Hp} (t : Tups H H') {v : V} {σ : Sta} (h : StaA H v σ) : StaA H' v σ := by
  obtain ⟨a, p, q, r, e, h1, h2, h3, h4⟩ := h
  exact ⟨a, p, q, r, e, t _ _ h1, t _ _ h2, t _ _ h3, t _ _ h4⟩
structure StOk (ts : List Stn) (ps : List Pipe) (σ : Sta) : Prop where
  ls : σ.sd.length = ts.length
  lc : σ.ct.length = (srt ps).length
  lf : σ.fl.length = (exitsOf ts ps).length
  st : ∀ (s : Nat) (t : Stn) (g : Nat), ts[s]? = some t → σ.sd[s]? = some g → g < t.stgs.length
  rb : σ.rs.length ≤ 100000
  cb : ∀ b ∈ σ.ct, b.length ≤ 100000
theorem StOk.tx {ts : List Stn} {ps : List Pipe} {σ : Sta} (h : StOk ts ps σ) (s l : Nat) : (txAt (srt ps) σ s l).length ≤ 100000 := by
  unfold txAt
  split
  · exact h.rb
  · cases z : σ.ct[ixIn (srt ps) s l]? with
    | none => exact Nat.zero_le _
    | some b => exact h.cb b (List.mem_of_getElem? z)
def LineOk (ps : List Pipe) (s l : Nat) : Prop := (s, l) = (0, 0) ∨ ∃ p ∈ srt ps, pe p = (s, l)
theorem eqv_nn (a b c d : Nat) : PyData.eqv (.tuple [.int (a : Nat), .int (b : Nat)]) (.tuple [.int (c : Nat), .int (d : Nat)]) = decide ((a, b) = (c, d)) := by
  simp only [PyData.eqv, PyData.eqvAll, Bool.and_true]
  by_cases h1 : a = c <;> by_cases h2 : b = d
  · subst h1; subst h2; simp
  · subst h1; simp [h2]; omega
  · simp [h1]; omega
  · simp [h1]; omega
def spTextAt (CY C : Addr) : Sp := fun vs H Q _ => ∃ (y : Addr) (v : V) (σ : Sta) (s l : Nat) (ts : List Stn) (ps : List Pipe), vs = [.ref y, v, .int (s : Nat), .int (l : Nat)] ∧ YdA CY C H y ts ps ∧ StaA H v σ ∧ StOk ts ps σ ∧ LineOk ps s l ∧ ∀ H', Same H H' → Q (.str (tx (txAt (srt ps) σ s l))) H'
section
variable {P : Program} {w : World} {K : PySem.W.Frag} {mg : Str → Option Value} {base : Heap} {aS a1 a2 aL aT : Addr} {f : Addr} {fd : FuncData} {C CD CY : Addr} {mc : Value}
abbrev s_text_at : Stmt := top 59
abbrev N_text_at : List Str := ["yard", "state", "station", "line"]
theorem sc_text_at : FnScope N_text_at ["yard", "state", "station", "line"] (defScope s_text_at) := ⟨rfl, rfl, rfl, by decide +kernel, rfl, by decide +kernel, by decide +kernel⟩
theorem ok_text_at (F : Fun K "text_at" "text_at" s_text_at f fd) (T : Txt K mg aS a1 a2) (Y : YdF K CY) : FnOk P w K mg base CX0 1 f fd ["yard", "state", "station", "line"] (spTextAt CY C) := by
  refine F.ok sc_text_at (fun vs H Q E h => ?_) (fun cdv A outer s0 H vs Q E hr h => ?_)
  · obtain ⟨y, v, σ, s, l, ts, ps, rfl, _⟩ := h
    rfl
  obtain ⟨y, v, σ, s, l, ts, ps, rfl, ya, sa, so, lo, q⟩ := h
  refine ⟨_, (pss_one (ps_ret (pe_ifExp (pt_cmpR (kEqD K rfl hr.units) (pe_tup (pa_cons (pv 2) (pa_cons (pv 3) pa_nil))) (pe_tup (pa_cons pe_int (pa_cons pe_int pa_nil))) (nomark _)) (pe_ix (kIxT K rfl) (pv 1) pe_int (fun _ _ => rfl)) (pe_ix (kIxT K rfl) (pe_ix (kIxT K rfl) (pv 1) pe_int (fun _ _ => rfl)) (pe_dget (hu1 hr) (kFld K rfl (pv 0)) (pe_tup (pa_cons (pv 2) (pa_cons (pv 3) pa_nil))) (fun _ _ => rfl)) (fun _ _ => rfl))))), ?_⟩
  refine ⟨_, rfl, _, rfl, sz rfl, fun p1 hp1 => ⟨sz rfl, fun p2 hp2 => ?_⟩⟩
  have k1 := same_new hp1 (.tup [.int (s : Nat), .int (l : Nat)])
  have k2 := same_new hp2 (.tup [.int 0, .int 0])
  have s12 := k1.trans' k2
  obtain ⟨a, p, q', r, rfl, h1, h2, h3, h4⟩ := sa
  refine ⟨.tuple [.int (s : Nat), .int (l : Nat)], .tuple [.int ((0 : Nat) : Int), .int ((0 : Nat) : Int)], .tup (SqT.of (k2 _ _ upd_same)) (.cons (.int _) (.cons (.int _) .nil)), .tup (SqT.of upd_same) (.cons (.int _) (.cons (.int _) .nil)), by rfl, by rfl, _, rfl, ?_⟩
  rw [eqv_nn]
  have e4 : (s, l) = (0, 0) ∨ (s, l) ≠ (0, 0) := by by_cases z : (s, l) = (0, 0); exact .inl z; exact .inr z
  rcases e4 with z | z
  · refine iteTd (decide_eq_true z) ⟨_, rfl, _, _, _, _, rfl, rfl, SqT.of (s12 _ _ h1), atI_nat (i := 2) rfl, ?_⟩
    have e5 : txAt (srt ps) σ s l = σ.rs := by unfold txAt; rw [if_pos z]
    rw [e5] at q
    exact q _ s12
  · refine iteFd (decide_eq_false z) ⟨_, rfl, _, _, _, _, rfl, rfl, SqT.of (s12 _ _ h1), atI_nat (i := 1) rfl, ?_⟩
    obtain ⟨dx, b1, b2, b3, b4, b5, b6, kv, kw, hy, he, hi, _⟩ := ya.dc
    refine ⟨_, rfl, y, CY, dx, _, _, rfl, s12 _ _ hy, Y.cl, Y.nI, rfl, _, rfl, _, rfl, sz rfl, fun p3 hp3 => ?_⟩
    have k3 := same_new hp3 (.tup [.int (s : Nat), .int (l : Nat)])
    have s13 := s12.trans' k3
    rcases lo with lo | lo
    · exact absurd lo z
    obtain ⟨pp, g1, g2, g3⟩ := ixIn_at lo
    have v1 := hi _ _ g1
    rw [g2] at v1
    refine ⟨_, _, rfl, .inr ⟨kv, kL2 (s, l), p3, .inl (s13 _ _ he), rfl, upd_same, v1.symm⟩, ?_⟩
    have lt : ixIn (srt ps) s l < σ.ct.length := by rw [so.lc]; exact lt_len g1
    refine ⟨_, _, _, _, rfl, rfl, SqT.of (s13 _ _ h3), atI_nat (i := ixIn (srt ps) s l) (x := .str (tx σ.ct[ixIn (srt ps) s l])) (by unfold tV; rw [List.getElem?_map, List.getElem?_eq_getElem lt]; rfl), ?_⟩
    have e5 : txAt (srt ps) σ s l = σ.ct[ixIn (srt ps) s l] := by unfold txAt; rw [if_neg z, List.getElem?_eq_getElem lt]; rfl
    rw [e5] at q
    exact q _ s13
end
end FY


set_option Elab.async false
set_option linter.all false
set_option maxRecDepth 100000
set_option maxHeartbeats 4000000
namespace FY
open PySem L2 FYR
def begS (ts : List Stn) (ps : List Pipe) (x : List Bool) : Sta := ⟨List.replicate ts.length 0, List.replicate ps.length [], x, List.replicate (exitsOf ts ps).length []⟩
def spPlace : Sp := fun vs H Q _ => ∃ c : List Bool, vs = [.str (tx c)] ∧ (c.length = 1 ∨ c.length = 2) ∧ Q (.int (valB c : Nat)) H
def spBegun (CY C : Addr) : Sp := fun vs H Q _ => ∃ (y : Addr) (x : List Bool) (ts : List Stn) (ps : List Pipe), vs = [.ref y, .str (tx x)] ∧ YdA CY C H y ts ps ∧ (exitsOf ts ps).length ≤ 3 ∧ ∀ H' v, Same H H' → StaA H' v (begS ts ps x) → Q v H'
section
variable {P : Program} {w : World} {K : PySem.W.Frag} {mg : Str → Option Value} {base : Heap} {aS a1 a2 aL aT : Addr} {f : Addr} {fd : FuncData} {C CD CY : Addr} {mc : Value}
abbrev s_place_of : Stmt := top 39
abbrev N_place_of : List Str := ["signs"]
theorem sc_place_of : FnScope N_place_of ["signs"] (defScope s_place_of) := ⟨rfl, rfl, rfl, by decide +kernel, rfl, by decide +kernel, by decide +kernel⟩
theorem ok_place_of (F : Fun K "place_of" "place_of" s_place_of f fd) (T : Txt K mg aS a1 a2) : FnOk P w K mg base CX0 1 f fd ["signs"] spPlace := by
  refine F.ok sc_place_of (fun vs H Q E h => ?_) (fun cdv A outer s0 H vs Q E hr h => ?_)
  · obtain ⟨c, rfl, _⟩ := h
    rfl
  obtain ⟨c, rfl, hl, q⟩ := h
  refine ⟨_, (pss_one (ps_ret (pe_callTy call_int2 rfl T.b_int bt_int (pa_cons (pv 0) (pa_cons pe_int pa_nil))))), ?_⟩
  exact ⟨_, rfl, c, rfl, hl, q⟩
abbrev s_begun : Stmt := top 58
abbrev N_begun : List Str := ["yard", "stream"]
theorem sc_begun : FnScope N_begun ["yard", "stream"] (defScope s_begun) := ⟨rfl, rfl, rfl, by decide +kernel, rfl, by decide +kernel, by decide +kernel⟩
theorem ok_begun (F : Fun K "begun" "begun" s_begun f fd) (T : Txt K mg aS a1 a2) (Y : YdF K CY) : FnOk P w K mg base CX0 1 f fd ["yard", "stream"] (spBegun CY C) := by
  refine F.ok sc_begun (fun vs H Q E h => ?_) (fun cdv A outer s0 H vs Q E hr h => ?_)
  · obtain ⟨y, x, ts, ps, rfl, _⟩ := h
    rfl
  obtain ⟨y, x, ts, ps, rfl, ya, hx, q⟩ := h
  obtain ⟨dx, a, b, c, d, e, f', hy, ⟨us, ha, pus⟩, ⟨ws, hb, pws⟩, ⟨es, hc, pes⟩, d1, d2, hd, hd1, hd2⟩ := ya.ob
  have le := paired_len pes
  refine ⟨_, (pss_one (ps_ret (pe_op (kCatA K rfl) (kFld K rfl (pv 0)) (pe_tup (pa_cons (pv 1) (pa_cons (pe_op (kRepA K rfl) (pe_tup (pa_cons pe_str pa_nil)) (pe_callB (kLen K rfl) rfl T.b_len bt_len (pa_cons (kFld K rfl (pv 0)) pa_nil))) pa_nil)))))), ?_⟩
  refine ⟨_, rfl, y, CY, dx, _, _, rfl, hy, Y.cl, Y.nB, rfl, _, rfl, sz rfl, fun p1 hp1 => ?_⟩
  have k1 := same_new hp1 (.tup [.str ""])
  refine ⟨_, rfl, y, CY, dx, _, _, rfl, k1 _ _ hy, Y.cl, Y.nX, rfl, _, _, rfl, .inr (SqT.of (k1 _ _ hc)), ?_⟩
  refine repA_of upd_same (by omega) fun H2 p2 s2 hp2 => ⟨sz rfl, fun p3 hp3 => ?_⟩
  have k3 := same_new hp3 (.tup [.str (tx x), .ref p2])
  have s13 := (k1.trans' s2).trans' k3
  refine ⟨_, _, _, _, rfl, rfl, SqT.of (s13 _ _ hd), SqT.of upd_same, (by decide : 4 ≤ sizeLine), fun z => (by cases z), fun _ z => (by cases z), fun _ _ p4 hp4 => ?_⟩
  have k4 := same_new hp4 (.tup ([.ref d1, .ref d2] ++ [.str (tx x), .ref p2]))
  have s14 := s13.trans' k4
  refine q _ _ s14 ⟨p4, d1, d2, p2, rfl, upd_same, ?_, ?_, ?_⟩
  · have z := s14 _ _ hd1
    rw [z]
    unfold nV begS
    simp
  · have z := s14 _ _ hd2
    rw [z]
    unfold tV begS
    rw [List.map_replicate]
    exact congrArg (fun v => some (HO.tup (List.replicate ps.length (V.str v)))) (show ("" : Str) = tx [] by decide +kernel)
  · rw [k4 _ _ (k3 _ _ hp2), le]
    unfold tV begS
    rw [List.map_replicate]
    exact congrArg (fun v => some (HO.tup (List.replicate (exitsOf ts ps).length (V.str v)))) (show ("" : Str) = tx [] by decide +kernel)
end
end FY


set_option Elab.async false
set_option linter.all false
set_option maxRecDepth 100000
set_option maxHeartbeats 4000000
namespace FY
open PySem L2 FYR
/-- LINES, and what it tells -/
structure LinT (K : PySem.W.Frag) (aL : Addr) : Prop where
  ln : ∀ r : Rd, ∃ a, PySem.W.nsIn K aL r.s = some (some (.ref a)) ∧ ∀ H, SqT K H a (nV r.lines)
def RowV (H : Hp) (u : V) : Option Rw → Prop
  | some r => RwA H u r
  | none => u = .non
def spBeatRow (CY C : Addr) : Sp := fun vs H Q _ => ∃ (y : Addr) (v : V) (σ : Sta) (s : Nat) (t : Stn) (ts : List Stn) (ps : List Pipe), vs = [.ref y, v, .int (s : Nat)] ∧ YdA CY C H y ts ps ∧ StaA H v σ ∧ StOk ts ps σ ∧ ts[s]? = some t ∧ t.ok ∧ AllIn ts (srt ps) ∧ ∀ H' u, Same H H' → RowV H' u (rowS ts (srt ps) σ s) → Q u H'
theorem sg_lines {s : Sg} {i o m : Nat} (h : s.ok i o m) (hi : 1 ≤ i) {l : Nat} (hl : l ∈ s.reads.lines) : l < i := by
  rcases h.1 with e | e
  · rw [e] at hl
    simp [Rd.lines] at hl
    omega
  · subst e
    cases z : s.reads <;> rw [z] at hl <;> simp [Rd.lines] at hl <;> omega
theorem flat1 {g : Nat → List Bool} : ∀ ls : List Nat, ((ls.map fun l => (g l).take 1).flatten).length ≤ ls.length
  | [] => Nat.le_refl 0
  | l :: r => by
    have := flat1 (g := g) r
    simp only [List.map_cons, List.flatten_cons, List.length_append, List.length_take, List.length_cons]
    omega
theorem reads_len (r : Rd) : r.s.length = r.lines.length := by cases r <;> decide +kernel
theorem val_many (r : Rd) {c : List Bool} (h : c.length = r.lines.length) : valB c < r.many ∧ (c.length = 1 ∨ c.length = 2) := by
  cases r with
  | one => match c, h with
    | [a], _ => exact ⟨by cases a <;> decide, .inl rfl⟩
  | two => match c, h with
    | [a], _ => exact ⟨by cases a <;> decide, .inl rfl⟩
  | both => match c, h with
    | [a, b], _ => exact ⟨by cases a <;> cases b <;> decide, .inr rfl⟩
section
variable {P : Program} {w : World} {K : PySem.W.Frag} {mg : Str → Option Value} {base : Heap} {aS a1 a2 aL aT : Addr} {f : Addr} {fd : FuncData} {C CD CY : Addr} {mc : Value}
abbrev s_beat_row : Stmt := top 60
abbrev N_beat_row : List Str := ["yard", "state", "station", "reads", "rows", "signs", "line"]
theorem sc_beat_row : FnScope N_beat_row ["yard", "state", "station"] (defScope s_beat_row) := ⟨rfl, rfl, rfl, by decide +kernel, rfl, by decide +kernel, by decide +kernel⟩
theorem ok_beat_row (F : Fun K "beat_row" "beat_row" s_beat_row f fd) (T : Txt K mg aS a1 a2) (L : Lin K w mg aL) (LT : LinT K aL) (S : StC K mg C) (Y : YdF K CY) (c_text_at : C8.Cal P w K mg base 1 "text_at" (spTextAt CY C) []) (c_place_of : C8.Cal P w K mg base 1 "place_of" spPlace []) : FnOk P w K mg base CX0 2 f fd ["yard", "state", "station"] (spBeatRow CY C) := by
  refine F.ok sc_beat_row (fun vs H Q E h => ?_) (fun cdv A outer s0 H vs Q E hr h => ?_)
  · obtain ⟨y, v, σ, s, t, ts, ps, rfl, _⟩ := h
    rfl
  obtain ⟨y, v, σ, s, t, ts, ps, rfl, ya, sa, so, et, tok, al, q⟩ := h
  obtain ⟨esL, nL, kd⟩ := L.kd
  have sa0 := sa
  obtain ⟨va, vp, vq, vr, rfl, h1, h2, h3, h4⟩ := sa
  obtain ⟨dx, a, b, c, d, e, f', hy, ⟨us, ha, pus⟩, _⟩ := ya.ob
  obtain ⟨u, hu, sA, sdx, sp, sps, rfl, hsa, hsp, psg⟩ := paired_at pus et
  have ls : s < σ.sd.length := by rw [so.ls]; exact lt_len et
  have eg : σ.sd[s]? = some σ.sd[s] := List.getElem?_eq_getElem ls
  have lg := so.st s t _ et eg
  have esg : t.stgs[σ.sd[s]]? = some t.stgs[σ.sd[s]] := List.getElem?_eq_getElem lg
  obtain ⟨gv, hgv, ga, gq, gws, rfl, hga, hgq, prw⟩ := paired_at psg esg
  have sgok := tok.sg _ (List.getElem_mem lg)
  have eS : sgAt ts σ s = t.stgs[σ.sd[s]] := by unfold sgAt; rw [et, eg]; show (t.stgs[σ.sd[s]]?).getD _ = _; rw [esg]; rfl
  generalize hsg : t.stgs[σ.sd[s]] = sg at *
  refine ⟨_, (pss_cons (ps_asg (pe_ix (kIxT K rfl) (kFld K rfl (pe_ix (kIxT K rfl) (kFld K rfl (pv 0)) (pv 2) (fun _ _ => rfl))) (pe_ix (kIxT K rfl) (pe_ix (kIxT K rfl) (pv 1) pe_int (fun _ _ => rfl)) (pv 2) (fun _ _ => rfl)) (fun _ _ => rfl)) (kTupG (n := 2) K rfl rfl (pgs_cons (pg_name (i := 3) sc_beat_row.nd rfl (Or.inl rfl)) (pgs_cons (pg_name (i := 4) sc_beat_row.nd rfl (Or.inl rfl)) pgs_nil))))
        (pss_cons (ps_set (i := 5) sc_beat_row.nd rfl (Or.inl rfl) (kJoin K rfl pe_str (pe_lc (own := [("line", 6)]) rfl sc_beat_row.nd (kTup K rfl (pe_kd rfl rfl kd (C8.pe_gc rfl L.g_LINES) (pv 3) (fun _ _ => rfl))) (blkOk_by (N := N_beat_row) (sc := defScope s_beat_row) (by decide +kernel)) (fun _ _ _ _ _ => (pg_name (i := 6) sc_beat_row.nd rfl (Or.inl rfl))) (fun _ _ _ _ _ => pts_nil) (fun _ _ _ _ _ => (pe_slice sl_str (C8.pe_c c_text_at hr (by decide) rfl (pa_cons (pv 0) (pa_cons (pv 1) (pa_cons (pv 2) (pa_cons (pv 6) pa_nil))))) po_none (po_some pe_int))))))
        (pss_one (ps_ret (pe_ifExp (pt_cmpR op_eq (pe_callB call_len_str rfl T.b_len bt_len (pa_cons (pv 5) pa_nil)) (pe_callB call_len_str rfl T.b_len bt_len (pa_cons (pv 3) pa_nil)) (nomark _)) (pe_ix (kIxT K rfl) (pv 4) (C8.pe_c c_place_of hr (by decide) rfl (pa_cons (pv 5) pa_nil)) (fun _ _ => rfl)) pe_non))))), ?_⟩
  refine ⟨_, rfl, y, CY, dx, _, _, rfl, hy, Y.cl, Y.nS, rfl, _, rfl, _, _, _, _, rfl, rfl, SqT.of ha, atI_nat hu, sA, C, sdx, _, _, rfl, hsa, S.cl, S.nS, rfl, _, rfl, _, _, _, _, rfl, rfl, SqT.of h1, atI_nat (i := 0) rfl, _, rfl, _, _, _, _, rfl, rfl, SqT.of h2, atI_nat (i := s) (x := .int (σ.sd[s] : Nat)) (by unfold nV; rw [List.getElem?_map, eg]; rfl), _, _, _, _, rfl, rfl, SqT.of hsp, atI_nat hgv, ?_⟩
  refine ⟨_, _, rfl, SqT.of hga, rfl, _, _, rfl, _, _, rfl, rfl, ?_⟩
  obtain ⟨la, hla, sqL⟩ := LT.ln sg.reads
  refine ⟨⟨_, rfl⟩, _, rfl, _, _, V.ref la, rfl, rfl, hla, rfl, _, rfl, ⟨_, sqL _⟩, fun D hD => lc_it walk_tup (fun i H' => Same H H' ∧ H' D = some (.lst ((sg.reads.lines.take i).map fun l => V.str (tx ((txAt (srt ps) σ s l).take 1))))) ⟨same_new hD _, upd_same⟩ (fun i H' _ z => sqL _) ?_ ?_⟩
  · rintro i x G1 G2 hi ⟨sm, hd⟩ ⟨rfl, hx⟩
    have hx' : ∃ l, sg.reads.lines[i]? = some l ∧ x = .int (l : Nat) := by
      unfold nV at hx
      rw [List.getElem?_map] at hx
      cases z : sg.reads.lines[i]? with
      | none => rw [z] at hx; cases hx
      | some l => rw [z] at hx; exact ⟨l, rfl, (Option.some.inj hx).symm⟩
    obtain ⟨l, hl, rfl⟩ := hx'
    refine ⟨rfl, tyI ⟨_, rfl, _, rfl, _, rfl, _, rfl, y, .ref va, σ, s, l, ts, ps, rfl, ya.nl (NL.of sm), sa0.keep (Tups.of sm), so, all_line al et (sg_lines sgok tok.i1 (List.mem_of_getElem? hl)), fun G3 s3 => ?_⟩⟩
    refine ⟨1, rfl, tx (txAt (srt ps) σ s l), rfl, by rw [tx_len]; exact Nat.le_trans (so.tx s l) (by decide), ?_⟩
    rw [show (1 : Int) = ((1 : Nat) : Int) from rfl, cut_to]
    refine ⟨_, s3 _ _ hd, ?_, same_at (sm.trans' s3) hD, ?_⟩
    · rw [List.length_map, List.length_take]
      exact Nat.lt_of_le_of_lt (Nat.min_le_right _ _) (Nat.lt_of_le_of_lt (show sg.reads.lines.length ≤ 2 by cases sg.reads <;> decide) (by decide))
    · have e9 : sg.reads.lines.take (i + 1) = sg.reads.lines.take i ++ [l] := by rw [List.take_succ, hl]; rfl
      rw [upd_same, e9, List.map_append]
      rfl
  · rintro H1 ⟨sm, hd⟩
    have el : (nV sg.reads.lines).length = sg.reads.lines.length := by unfold nV; rw [List.length_map]
    rw [el, List.take_length] at hd
    have eG : sigs ts (srt ps) σ s = (sg.reads.lines.map fun l => (txAt (srt ps) σ s l).take 1).flatten := by unfold sigs; rw [eS]
    refine joinEndL (ys := sg.reads.lines.map fun l => (txAt (srt ps) σ s l).take 1) (by rw [hd, List.map_map]; rfl) (by have := flat1 (g := fun l => txAt (srt ps) σ s l) sg.reads.lines; have l2 : sg.reads.lines.length ≤ 2 := (by cases sg.reads <;> decide); omega) ?_
    rw [← eG]
    have lq : (sigs ts (srt ps) σ s).length ≤ 2 := by
      rw [eG]
      have := flat1 (g := fun l => txAt (srt ps) σ s l) sg.reads.lines
      have l2 : sg.reads.lines.length ≤ 2 := (by cases sg.reads <;> decide)
      omega
    refine ⟨_, rfl, _, rfl, by rw [tx_len]; exact Nat.le_trans lq (by decide), _, rfl, _, rfl, by rw [reads_len]; exact Nat.le_trans (show sg.reads.lines.length ≤ 2 by cases sg.reads <;> decide) (by decide), rfl, _, rfl, ?_⟩
    by_cases z : (sigs ts (srt ps) σ s).length = sg.reads.lines.length
    · obtain ⟨vm, v12⟩ := val_many sg.reads z
      have lr : valB (sigs ts (srt ps) σ s) < sg.rows.length := by rw [sgok.2.1]; exact vm
      have er : sg.rows[valB (sigs ts (srt ps) σ s)]? = some sg.rows[valB (sigs ts (srt ps) σ s)] := List.getElem?_eq_getElem lr
      obtain ⟨rv, hrv, rA⟩ := paired_at prw er
      refine iteTd (by rw [tx_len, reads_len, z]; simp) ⟨_, rfl, _, rfl, _, rfl, v12, _, _, _, _, rfl, rfl, SqT.of (sm _ _ hgq), atI_nat hrv, q _ _ sm ?_⟩
      unfold rowS
      rw [eS, if_pos z, er]
      exact rA.keep (Tups.of sm)
    · refine iteFd (by rw [tx_len, reads_len]; simp; omega) (q _ _ sm ?_)
      unfold rowS
      rw [eS, if_neg z]
      rfl
end
end FY


set_option Elab.async false
set_option linter.all false
set_option maxRecDepth 100000
set_option maxHeartbeats 4000000
namespace FY
open PySem L2 FYR
def rmAt (qs : List Pipe) (σ : Sta) (s : Nat) (r : Rw) (zs : List Nat) (o : Nat) : Bool := match qs.findIdx? (fun p => decide (pb p = (s, o))) with
    | some j => decide (gvAt r o = [] ∨ ((σ.ct[j]?).getD []).length + (gvAt r o).length ≤ (zs[j]?).getD 0)
    | none => true
theorem room_eq (qs : List Pipe) (σ : Sta) (s : Nat) (r : Rw) (zs : List Nat) : roomS qs σ s r zs = (List.range r.gives.length).all (rmAt qs σ s r zs) := rfl
def OutOk (ts : List Stn) (ps : List Pipe) (s o : Nat) : Prop := (s, o) ∈ exitsOf ts ps ∨ ∃ p ∈ srt ps, pb p = (s, o)
theorem out_ok {ts : List Stn} {ps : List Pipe} {s o : Nat} {t : Stn} (e : ts[s]? = some t) (ho : o < t.outs) : OutOk ts ps s o := by
  have hm : ∀ (n : Nat) (ts : List Stn) (s : Nat), ts[s]? = some t → (n + s, o) ∈ linesFrom n ts := by
    intro n ts
    induction ts generalizing n with
    | nil => intro s h; simp at h
    | cons u r ih =>
      intro s h
      simp only [linesFrom, List.mem_append]
      cases s with
      | zero =>
        have : u = t := by simpa using h
        subst this
        exact .inl (List.mem_map.mpr ⟨o, List.mem_range.mpr ho, rfl⟩)
      | succ s =>
        have := ih (n + 1) s (by simpa using h)
        rw [show n + (s + 1) = n + 1 + s by omega]
        exact .inr this
  have h0 := hm 0 ts s e
  rw [Nat.zero_add] at h0
  by_cases z : (s, o) ∈ ps.map pb
  · obtain ⟨p, hp, e2⟩ := List.mem_map.mp z
    exact .inr ⟨p, (srt_perm ps).mem_iff.mpr hp, e2⟩
  · exact .inl (List.mem_filter.mpr ⟨h0, by simpa using z⟩)
theorem onto_pipe {H : Hp} {kw : List (List Key × V)} {qs : List Pipe} {ex : List (Nat × Nat)} (h : OntoA H kw qs ex) {s o : Nat} (hp : ∃ p ∈ qs, pb p = (s, o)) : ∃ j a, qs.findIdx? (fun p => decide (pb p = (s, o))) = some j ∧ j < qs.length ∧ valV kw (kL2 (s, o)) = some (.ref a) ∧ H a = some (.tup [.bl true, .int (j : Nat)]) := by
  cases z : qs.findIdx? (fun p => decide (pb p = (s, o))) with
  | none =>
    obtain ⟨p, hp, e⟩ := hp
    have := List.findIdx?_eq_none_iff.mp z p hp
    simp [e] at this
  | some j =>
    obtain ⟨hj, hg, _⟩ := List.findIdx?_eq_some_iff_getElem.mp z
    have e1 : pb qs[j] = (s, o) := by simpa using hg
    obtain ⟨a, h1, h2⟩ := h.1 j qs[j] (List.getElem?_eq_getElem hj)
    rw [e1] at h1
    exact ⟨j, a, rfl, hj, h1, h2⟩
def spRoom (CY C : Addr) : Sp := fun vs H Q _ => ∃ (y q G Z : Addr) (σ : Sta) (s : Nat) (t : Stn) (r : Rw) (zs : List Nat) (ts : List Stn) (ps : List Pipe), vs = [.ref y, .ref q, .int (s : Nat), .ref G, .ref Z] ∧ YdA CY C H y ts ps ∧ H q = some (.tup (tV σ.ct)) ∧ H G = some (.tup (tV r.gives)) ∧ H Z = some (.tup (nV zs)) ∧ zs.length = (srt ps).length ∧ StOk ts ps σ ∧ ts[s]? = some t ∧ r.ok t.outs t.stgs.length ∧ ∀ H', Same H H' → Q (.bl (roomS (srt ps) σ s r zs)) H'
section
variable {P : Program} {w : World} {K : PySem.W.Frag} {mg : Str → Option Value} {base : Heap} {aS a1 a2 aL aT : Addr} {f : Addr} {fd : FuncData} {C CD CY : Addr} {mc : Value}
abbrev s_has_room : Stmt := top 61
abbrev N_has_room : List Str := ["yard", "contents", "station", "gives", "sizes", "line", "text", "is_pipe", "place"]
theorem sc_has_room : FnScope N_has_room ["yard", "contents", "station", "gives", "sizes"] (defScope s_has_room) := ⟨rfl, rfl, rfl, by decide +kernel, rfl, by decide +kernel, by decide +kernel⟩
theorem ok_has_room (F : Fun K "has_room" "has_room" s_has_room f fd) (T : Txt K mg aS a1 a2) (Y : YdF K CY) : FnOk P w K mg base CX0 1 f fd ["yard", "contents", "station", "gives", "sizes"] (spRoom CY C) := by
  refine F.ok sc_has_room (fun vs H Q E h => ?_) (fun cdv A outer s0 H vs Q E hr h => ?_)
  · obtain ⟨y, q, G, Z, σ, s, t, r, zs, ts, ps, rfl, _⟩ := h
    rfl
  obtain ⟨y, q, G, Z, σ, s, t, r, zs, ts, ps, rfl, ya, hq, hG, hZ, lz, so, et, rok, qq⟩ := h
  obtain ⟨dx, b1, b2, b3, b4, b5, b6, kv, kw, hy, he, hi, hf, on⟩ := ya.dc
  refine ⟨_, (pss_cons (ps_for PassesOwn.never rfl (pi_enumT K rfl rfl T.b_enumerate (pa_cons (pv 3) pa_nil)) (kTupG (n := 2) K rfl rfl (pgs_cons (pg_name (i := 5) sc_has_room.nd rfl (Or.inl rfl)) (pgs_cons (pg_name (i := 6) sc_has_room.nd rfl (Or.inl rfl)) pgs_nil)))
        (pss_cons (ps_asg (pe_dget (hu1 hr) (kFld K rfl (pv 0)) (pe_tup (pa_cons (pv 2) (pa_cons (pv 5) pa_nil))) (fun _ _ => rfl)) (kTupG (n := 2) K rfl rfl (pgs_cons (pg_name (i := 7) sc_has_room.nd rfl (Or.inl rfl)) (pgs_cons (pg_name (i := 8) sc_has_room.nd rfl (Or.inl rfl)) pgs_nil))))
        (pss_one (ps_if (PW.pt (pw_and (pt_val (pv 7)) (pw_and (pt_cmpR op_ne (pv 6) pe_str (nomark _)) (pw_and1 (pt_cmpR op_gt (pe_op op_add (pe_callB call_len_str rfl T.b_len bt_len (pa_cons (pe_ix (kIxT K rfl) (pv 1) (pv 8) (fun _ _ => rfl)) pa_nil)) (pe_callB call_len_str rfl T.b_len bt_len (pa_cons (pv 6) pa_nil))) (pe_ix (kIxT K rfl) (pv 4) (pv 8) (fun _ _ => rfl)) (nomark _))))))
        (pss_one (ps_ret pe_bl))
        pss_nil))))
        (pss_one (ps_ret pe_bl))), ?_⟩
  refine ⟨_, rfl, _, _, rfl, SqT.of hG, for_it walk_enumT (fun i τ H' => (∃ a b c d, τ = [some (.ref y), some (.ref q), some (.int (s : Nat)), some (.ref G), some (.ref Z), a, b, c, d]) ∧ Same H H' ∧ ∀ o < i, rmAt (srt ps) σ s r zs o = true) ⟨⟨_, _, _, _, rfl⟩, Same.refl _, fun o ho => absurd ho (Nat.not_lt_zero _)⟩ (fun i τ H' _ z => SqT.of (z.2.1 _ _ hG)) ?_ ?_⟩
  · rintro i x τ G1 G2 hi2 ⟨⟨a, b, c, d, rfl⟩, sm, al⟩ ⟨T0, i1, i2, rfl, hT0, rfl, hi1, hi2'⟩
    obtain rfl : V.int (i : Nat) = i1 := Option.some.inj hi1
    have hg : ∃ g, r.gives[i]? = some g ∧ i2 = .str (tx g) := by
      have hi2' : (tV r.gives)[i]? = some i2 := hi2'
      unfold tV at hi2'
      rw [List.getElem?_map] at hi2'
      cases z : r.gives[i]? with
      | none => rw [z] at hi2'; cases hi2'
      | some g => rw [z] at hi2'; exact ⟨g, rfl, (Option.some.inj hi2').symm⟩
    obtain ⟨g, hg, rfl⟩ := hg
    have k0 := same_new hT0 (.tup [.int (i : Nat), .str (tx g)])
    have s0' := sm.trans' k0
    have eg : gvAt r i = g := by unfold gvAt; rw [hg]; rfl
    have io : i < t.outs := by rw [← rok.1]; exact lt_len hg
    refine ⟨_, _, rfl, SqT.of upd_same, rfl, _, _, rfl, _, _, rfl, rfl, _, rfl, y, CY, dx, _, _, rfl, s0' _ _ hy, Y.cl, Y.nO, rfl, _, rfl, _, rfl, sz rfl, fun p3 hp3 => ?_⟩
    have k3 := same_new hp3 (.tup [.int (s : Nat), .int (i : Nat)])
    have s3 := s0'.trans' k3
    rcases out_ok (ps := ps) et io with hx | hx
    · obtain ⟨n, hn⟩ := List.mem_iff_getElem?.mp hx
      obtain ⟨a9, v9, h9⟩ := on.2 n _ hn
      refine ⟨_, _, rfl, .inr ⟨kw, kL2 (s, i), p3, .inl (s3 _ _ hf), rfl, upd_same, v9.symm⟩, _, _, rfl, SqT.of (s3 _ _ h9), rfl, _, _, rfl, _, _, rfl, rfl, ?_⟩
      have rm : rmAt (srt ps) σ s r zs i = true := by
        unfold rmAt
        cases z : (srt ps).findIdx? (fun p => decide (pb p = (s, i))) with
        | none => rfl
        | some j =>
          obtain ⟨hj, hg', _⟩ := List.findIdx?_eq_some_iff_getElem.mp z
          have e1 : pb (srt ps)[j] = (s, i) := by simpa using hg'
          have := (List.mem_filter.mp hx).2
          simp only [Bool.not_eq_true', decide_eq_false_iff_not] at this
          exact absurd (by rw [← e1]; exact List.mem_map_of_mem ((srt_perm ps).mem_iff.mp (List.getElem_mem hj))) this
      refine ⟨_, rfl, _, rfl, iteF (iteF ⟨⟨_, _, _, _, rfl⟩, s3, fun o ho => ?_⟩)⟩
      by_cases z : o = i
      · rw [z]; exact rm
      · exact al o (by omega)
    · obtain ⟨j, a9, f9, j9, v9, h9⟩ := onto_pipe on hx
      refine ⟨_, _, rfl, .inr ⟨kw, kL2 (s, i), p3, .inl (s3 _ _ hf), rfl, upd_same, v9.symm⟩, _, _, rfl, SqT.of (s3 _ _ h9), rfl, _, _, rfl, _, _, rfl, rfl, ?_⟩
      have lc : j < σ.ct.length := by rw [so.lc]; exact j9
      have lzj : j < zs.length := by rw [lz]; exact j9
      have er : rmAt (srt ps) σ s r zs i = decide (g = [] ∨ σ.ct[j].length + g.length ≤ zs[j]) := by
        unfold rmAt
        rw [f9, eg]
        simp [List.getElem?_eq_getElem lc, List.getElem?_eq_getElem lzj]
      have g2 : g.length ≤ 2 := rok.2.1 g (List.mem_of_getElem? hg)
      have cb := so.cb _ (List.getElem_mem lc)
      refine ⟨_, rfl, _, rfl, iteT ⟨_, rfl, rfl, _, rfl, ?_⟩⟩
      by_cases zg : g = []
      · subst zg
        refine iteFd (by decide +kernel) (iteF ⟨⟨_, _, _, _, rfl⟩, s3, fun o ho => ?_⟩)
        by_cases z : o = i
        · rw [z, er]; simp
        · exact al o (by omega)
      · have ne : ¬ V.str (tx g) = V.str "" := fun y => by
          have y1 : tx g = "" := by injection y
          have y2 : (tx g).length = 0 := by rw [y1]; rfl
          rw [tx_len] at y2
          exact zg (List.length_eq_zero_iff.mp y2)
        refine iteTd (by rw [decide_eq_false ne]; rfl) ⟨_, rfl, _, rfl, _, _, _, _, rfl, rfl, SqT.of (s3 _ _ hq), atI_nat (i := j) (x := .str (tx σ.ct[j])) (by unfold tV; rw [List.getElem?_map, List.getElem?_eq_getElem lc]; rfl), _, rfl, by rw [tx_len]; exact Nat.le_trans cb (by decide), _, rfl, _, rfl, by rw [tx_len]; exact Nat.le_trans g2 (by decide), _, _, rfl, rfl, _, rfl, _, rfl, _, _, _, _, rfl, rfl, SqT.of (s3 _ _ hZ), atI_nat (i := j) (x := .int (zs[j] : Nat)) (by unfold nV; rw [List.getElem?_map, List.getElem?_eq_getElem lzj]; rfl), _, _, rfl, rfl, _, rfl, ?_⟩
        rw [tx_len, tx_len]
        by_cases zr : σ.ct[j].length + g.length ≤ zs[j]
        · refine iteFd (by simp; omega) ⟨⟨_, _, _, _, rfl⟩, s3, fun o ho => ?_⟩
          by_cases z : o = i
          · rw [z, er]; simp [zr]
          · exact al o (by omega)
        · refine iteTd (by simp; omega) ?_
          have e : roomS (srt ps) σ s r zs = false := by
            rw [room_eq]
            cases y : (List.range r.gives.length).all (rmAt (srt ps) σ s r zs) with
            | false => rfl
            | true =>
              have := List.all_eq_true.mp y i (List.mem_range.mpr (lt_len hg))
              rw [er] at this
              simp [zg, zr] at this
          rw [e] at qq
          exact qq _ s3
  · rintro τ H1 ⟨⟨a, b, c, d, rfl⟩, sm, al⟩
    have e : roomS (srt ps) σ s r zs = true := by
      rw [room_eq, List.all_eq_true]
      intro o ho
      exact al o (by have := List.mem_range.mp ho; unfold tV; rw [List.length_map]; exact this)
    rw [e] at qq
    exact qq _ sm
end
end FY


set_option Elab.async false
set_option linter.all false
set_option maxRecDepth 100000
set_option maxHeartbeats 4000000
namespace FY
open PySem L2 FYR
def SzA (H : Hp) (v : V) : Option (List Nat) → Prop
  | none => v = .non
  | some zs => ∃ Z, v = .ref Z ∧ H Z = some (.tup (nV zs))
def SzOk (ps : List Pipe) : Option (List Nat) → Prop
  | none => True
  | some zs => zs.length = (srt ps).length
theorem SzA.keep {H H' : Hp} (t : Tups H H') {v : V} {z : Option (List Nat)} (h : SzA H v z) : SzA H' v z := by
  cases z with
  | none => exact h
  | some zs =>
    obtain ⟨Z, e, h1⟩ := h
    exact ⟨Z, e, t _ _ h1⟩
theorem row_in {ts : List Stn} {ps : List Pipe} {σ : Sta} {s : Nat} {t : Stn} {r : Rw} (so : StOk ts ps σ) (et : ts[s]? = some t) (tok : t.ok) (h : rowS ts (srt ps) σ s = some r) : r.ok t.outs t.stgs.length := by
  have ls : s < σ.sd.length := by rw [so.ls]; exact lt_len et
  have eg : σ.sd[s]? = some σ.sd[s] := List.getElem?_eq_getElem ls
  have lg := so.st s t _ et eg
  have esg : t.stgs[σ.sd[s]]? = some t.stgs[σ.sd[s]] := List.getElem?_eq_getElem lg
  have eS : sgAt ts σ s = t.stgs[σ.sd[s]] := by unfold sgAt; rw [et, eg]; show (t.stgs[σ.sd[s]]?).getD _ = _; rw [esg]; rfl
  unfold rowS at h
  split at h
  · rw [eS] at h
    exact (tok.sg _ (List.getElem_mem lg)).2.2 r (List.mem_of_getElem? h)
  · cases h
def spPoss (CY C : Addr) : Sp := fun vs H Q _ => ∃ (y : Addr) (v zv : V) (σ : Sta) (s : Nat) (t : Stn) (z : Option (List Nat)) (ts : List Stn) (ps : List Pipe), vs = [.ref y, v, .int (s : Nat), zv] ∧ YdA CY C H y ts ps ∧ StaA H v σ ∧ StOk ts ps σ ∧ ts[s]? = some t ∧ t.ok ∧ AllIn ts (srt ps) ∧ SzA H zv z ∧ SzOk ps z ∧ ∀ H', Same H H' → Q (.bl (canS ts (srt ps) σ s z)) H'
section
variable {P : Program} {w : World} {K : PySem.W.Frag} {mg : Str → Option Value} {base : Heap} {aS a1 a2 aL aT : Addr} {f : Addr} {fd : FuncData} {C CD CY : Addr} {mc : Value}
abbrev s_is_possible : Stmt := top 62
abbrev N_is_possible : List Str := ["yard", "state", "station", "sizes", "row"]
theorem sc_is_possible : FnScope N_is_possible ["yard", "state", "station", "sizes"] (defScope s_is_possible) := ⟨rfl, rfl, rfl, by decide +kernel, rfl, by decide +kernel, by decide +kernel⟩
theorem ok_is_possible (F : Fun K "is_possible" "is_possible" s_is_possible f fd) (c_beat_row : C8.Cal P w K mg base 2 "beat_row" (spBeatRow CY C) []) (c_has_room : C8.Cal P w K mg base 1 "has_room" (spRoom CY C) []) : FnOk P w K mg base CX0 3 f fd ["yard", "state", "station", "sizes"] (spPoss CY C) := by
  refine F.ok sc_is_possible (fun vs H Q E h => ?_) (fun cdv A outer s0 H vs Q E hr h => ?_)
  · obtain ⟨y, v, zv, σ, s, t, z, ts, ps, rfl, _⟩ := h
    rfl
  obtain ⟨y, v, zv, σ, s, t, z, ts, ps, rfl, ya, sa, so, et, tok, al, sz1, szo, q⟩ := h
  refine ⟨_, (pss_cons (ps_set (i := 4) sc_is_possible.nd rfl (Or.inl rfl) (C8.pe_c c_beat_row hr (by decide) rfl (pa_cons (pv 0) (pa_cons (pv 1) (pa_cons (pv 2) pa_nil)))))
        (pss_one (ps_ret (pe_and (pe_cmp (pc_notN (pv 4))) (pe_one (pe_or (pe_cmp (pc_isN (pv 3))) (pe_one (C8.pe_c c_has_room hr (by decide) rfl (pa_cons (pv 0) (pa_cons (pe_ix (kIxT K rfl) (pv 1) pe_int (fun _ _ => rfl)) (pa_cons (pv 2) (pa_cons (pe_ix (kIxT K rfl) (pv 4) pe_int (fun _ _ => rfl)) (pa_cons (pv 3) pa_nil))))))))))))), ?_⟩
  refine ⟨_, rfl, _, rfl, _, rfl, y, v, σ, s, t, ts, ps, rfl, ya, sa, so, et, tok, al, fun H1 u s1 ru => ?_⟩
  unfold canS at q
  cases zr : rowS ts (srt ps) σ s with
  | none =>
    rw [zr] at ru q
    obtain rfl : u = .non := ru
    exact ⟨_, rfl, _, rfl, iteFd (by decide) (q _ s1)⟩
  | some r =>
    rw [zr] at ru q
    obtain ⟨ra, rg, rfl, hra, hrg⟩ := ru
    have rok := row_in so et tok zr
    cases z with
    | none =>
      obtain rfl : zv = .non := sz1
      exact ⟨_, rfl, _, rfl, iteTd (by simp) ⟨_, rfl, _, rfl, iteTd (by decide) (q _ s1)⟩⟩
    | some zs =>
      obtain ⟨Z, rfl, hZ⟩ := sz1
      obtain ⟨va, vp, vq, vr, rfl, h1, h2, h3, h4⟩ := sa
      exact ⟨_, rfl, _, rfl, iteTd (by simp) ⟨_, rfl, _, rfl, iteFd (by simp) ⟨_, rfl, _, rfl, _, _, _, _, rfl, rfl, SqT.of (s1 _ _ h1), atI_nat (i := 1) rfl, _, rfl, _, rfl, _, _, _, _, rfl, rfl, SqT.of hra, atI_nat (i := 0) rfl, _, rfl, y, vq, rg, Z, σ, s, t, r, zs, ts, ps, rfl, ya.nl (NL.of s1), s1 _ _ h3, hrg, s1 _ _ hZ, szo, so, et, rok, fun H2 s2 => q _ (s1.trans' s2)⟩⟩⟩
end
end FY


set_option Elab.async false
set_option linter.all false
set_option maxRecDepth 100000
set_option maxHeartbeats 4000000
namespace FY
open PySem L2 FYR
def spPossible (CY C : Addr) : Sp := fun vs H Q _ => ∃ (y : Addr) (v zv : V) (σ : Sta) (z : Option (List Nat)) (ts : List Stn) (ps : List Pipe), vs = [.ref y, v, zv] ∧ YdA CY C H y ts ps ∧ StaA H v σ ∧ StOk ts ps σ ∧ (∀ t ∈ ts, t.ok) ∧ ts.length ≤ 12 ∧ AllIn ts (srt ps) ∧ SzA H zv z ∧ SzOk ps z ∧ ∀ H' p, Same H H' → H p = none → H' p = some (.lst (nV (ableS ts (srt ps) σ z))) → Q (.ref p) H'
section
variable {P : Program} {w : World} {K : PySem.W.Frag} {mg : Str → Option Value} {base : Heap} {aS a1 a2 aL aT : Addr} {f : Addr} {fd : FuncData} {C CD CY : Addr} {mc : Value}
abbrev s_possible : Stmt := top 63
abbrev N_possible : List Str := ["yard", "state", "sizes", "station"]
theorem sc_possible : FnScope N_possible ["yard", "state", "sizes"] (defScope s_possible) := ⟨rfl, rfl, rfl, by decide +kernel, rfl, by decide +kernel, by decide +kernel⟩
theorem ok_possible (F : Fun K "possible" "possible" s_possible f fd) (T : Txt K mg aS a1 a2) (lY : LenC P w K mg base 1 CY (spYL CY C)) (c_is_possible : C8.Cal P w K mg base 3 "is_possible" (spPoss CY C) []) : FnOk P w K mg base CX0 4 f fd ["yard", "state", "sizes"] (spPossible CY C) := by
  refine F.ok sc_possible (fun vs H Q E h => ?_) (fun cdv A outer s0 H vs Q E hr h => ?_)
  · obtain ⟨y, v, zv, σ, z, ts, ps, rfl, _⟩ := h
    rfl
  obtain ⟨y, v, zv, σ, z, ts, ps, rfl, ya, sa, so, tok, t12, al, sz1, szo, q⟩ := h
  refine ⟨_, (pss_one (ps_ret (pe_lc (own := [("station", 3)]) rfl sc_possible.nd (pi_range1 rfl T.b_range (pa_cons (pe_callB (kLenO lY hr (by decide)) rfl T.b_len bt_len (pa_cons (pv 0) pa_nil)) pa_nil)) (blkOk_by (N := N_possible) (sc := defScope s_possible) (by decide +kernel)) (fun _ _ _ _ _ => (pg_name (i := 3) sc_possible.nd rfl (Or.inl rfl))) (fun _ _ _ _ _ => pts_one (pt_val (C8.pe_c c_is_possible hr (by decide) rfl (pa_cons (pv 0) (pa_cons (pv 1) (pa_cons (pv 3) (pa_cons (pv 2) pa_nil))))))) (fun _ _ _ _ _ => (pv 3))))), ?_⟩
  obtain ⟨dx, b1, b2, b3, b4, b5, b6, kv, kw, hy, _⟩ := ya.dc
  refine ⟨_, rfl, y, dx, _, rfl, hy, y, ts, ps, rfl, ya, ?_⟩
  refine ⟨ts.length, rfl, by omega, _, rfl, by omega, by omega, fun D hD => lc_it walk_range (fun i H' => Same H H' ∧ H' D = some (.lst (nV ((List.range i).filter fun s => canS ts (srt ps) σ s z)))) ⟨same_new hD _, upd_same⟩ (fun _ _ _ _ => trivial) ?_ ?_⟩
  · rintro i x H1 H2 hi ⟨sm, hd⟩ ⟨rfl, hx⟩
    have hx : x = .int (i : Int) := by rw [hx]; exact congrArg V.int (Int.zero_add _)
    subst hx
    have hil : i < ts.length := by omega
    have et : ts[i]? = some ts[i] := List.getElem?_eq_getElem hil
    refine ⟨rfl, _, rfl, _, rfl, _, rfl, _, rfl, y, v, zv, σ, i, ts[i], z, ts, ps, rfl, ya.nl (NL.of sm), sa.keep (Tups.of sm), so, et, tok _ (List.getElem_mem hil), al, sz1.keep (Tups.of sm), szo, fun H3 s3 => ⟨_, rfl, ?_⟩⟩
    cases zc : canS ts (srt ps) σ i z with
    | true =>
      refine iteT ⟨_, rfl, _, s3 _ _ hd, ?_, same_at (sm.trans' s3) hD, ?_⟩
      · unfold nV
        rw [List.length_map]
        exact Nat.lt_of_le_of_lt (List.length_filter_le _ _) (Nat.lt_of_le_of_lt (by rw [List.length_range]; omega) (show 12 < sizeLine by decide))
      · rw [upd_same, List.range_succ, List.filter_append]
        unfold nV
        rw [List.map_append]
        simp [zc]
    | false =>
      refine iteF ⟨sm.trans' s3, ?_⟩
      rw [s3 _ _ hd, List.range_succ, List.filter_append]
      simp [zc]
  · rintro H1 ⟨sm, hd⟩
    refine q _ _ sm hD ?_
    rw [hd]
    rfl
end
end FY


set_option Elab.async false
set_option linter.all false
set_option maxRecDepth 100000
set_option maxHeartbeats 4000000
namespace FY
/-! ### a beat, sign by sign -/
def pop1 (qs : List Pipe) (s : Nat) (p : List Bool × List (List Bool)) (l : Nat) : List Bool × List (List Bool) := if (s, l) = (0, 0) then (p.1.drop 1, p.2) else (p.1, p.2.set (ixIn qs s l) (((p.2[ixIn qs s l]?).getD []).drop 1))
def giv1 (qs : List Pipe) (ex : List (Nat × Nat)) (s : Nat) (r : Rw) (p : List (List Bool) × List (List Bool)) (o : Nat) : List (List Bool) × List (List Bool) := match qs.findIdx? (fun p => decide (pb p = (s, o))) with
  | some j => (p.1.set j ((p.1[j]?).getD [] ++ gvAt r o), p.2)
  | none => (p.1, p.2.set (ex.findIdx fun l => decide (l = (s, o))) ((p.2[ex.findIdx fun l => decide (l = (s, o))]?).getD [] ++ gvAt r o))
theorem pop_len (qs : List Pipe) (s : Nat) : ∀ (ls : List Nat) (p : List Bool × List (List Bool)), (ls.foldl (pop1 qs s) p).2.length = p.2.length
  | [], p => rfl
  | l :: r, p => by
    rw [List.foldl_cons, pop_len qs s r]
    unfold pop1
    split <;> simp
theorem giv_len (qs : List Pipe) (ex : List (Nat × Nat)) (s : Nat) (r : Rw) : ∀ (ls : List Nat) (p : List (List Bool) × List (List Bool)), (ls.foldl (giv1 qs ex s r) p).1.length = p.1.length ∧ (ls.foldl (giv1 qs ex s r) p).2.length = p.2.length
  | [], p => ⟨rfl, rfl⟩
  | l :: r', p => by
    obtain ⟨a, b⟩ := giv_len qs ex s r r' (giv1 qs ex s r p l)
    rw [List.foldl_cons, a, b]
    unfold giv1
    split <;> simp
/-- what the pops leave of the stream -/
theorem pop_rs {qs : List Pipe} {s : Nat} : ∀ (ls : List Nat) (p : List Bool × List (List Bool)), ls.Nodup → (ls.foldl (pop1 qs s) p).1 = if s = 0 ∧ 0 ∈ ls then p.1.drop 1 else p.1
  | [], p, _ => by simp
  | l :: r, p, h => by
    obtain ⟨h1, h2⟩ := List.nodup_cons.mp h
    rw [List.foldl_cons, pop_rs r _ h2]
    unfold pop1
    by_cases z : (s, l) = (0, 0)
    · obtain ⟨rfl, rfl⟩ := Prod.mk.inj z
      rw [if_pos rfl, if_neg (fun w => h1 w.2), if_pos ⟨rfl, List.mem_cons_self ..⟩]
    · rw [if_neg z]
      by_cases y : s = 0 ∧ 0 ∈ r
      · rw [if_pos y, if_pos ⟨y.1, List.mem_cons_of_mem _ y.2⟩]
      · rw [if_neg y]
        by_cases w : s = 0 ∧ 0 ∈ l :: r
        · exfalso
          rcases List.mem_cons.mp w.2 with e | e
          · exact z (by rw [w.1, ← e])
          · exact y ⟨w.1, e⟩
        · rw [if_neg w]
def LineQ (qs : List Pipe) (s l : Nat) : Prop := (s, l) = (0, 0) ∨ ∃ p ∈ qs, pe p = (s, l)
/-- .. of a pipe -/
theorem pop_ct {qs : List Pipe} (nd : (qs.map pe).Nodup) (lt : ∀ p ∈ qs, p.1 < p.2.2.1) {s j : Nat} {q : Pipe} (hq : qs[j]? = some q) : ∀ (ls : List Nat) (p : List Bool × List (List Bool)), ls.Nodup → p.2.length = qs.length → (∀ l ∈ ls, LineQ qs s l) → ((ls.foldl (pop1 qs s) p).2[j]?).getD [] = if q.2.2.1 = s ∧ q.2.2.2 ∈ ls then ((p.2[j]?).getD []).drop 1 else (p.2[j]?).getD []
  | [], p, _, _, _ => by simp
  | l :: r, p, h, hl, ho => by
    obtain ⟨h1, h2⟩ := List.nodup_cons.mp h
    have lj : j < p.2.length := by rw [hl]; exact (List.getElem?_eq_some_iff.mp hq).1
    have l1 : (pop1 qs s p l).2.length = qs.length := by
      rw [← hl]
      unfold pop1
      split <;> simp
    rw [List.foldl_cons, pop_ct nd lt hq r _ h2 l1 fun l' hl' => ho l' (List.mem_cons_of_mem _ hl')]
    have q0 : q.2.2.1 ≠ 0 := by have := lt q (List.mem_of_getElem? hq); omega
    unfold pop1
    by_cases z : (s, l) = (0, 0)
    · obtain ⟨rfl, rfl⟩ := Prod.mk.inj z
      rw [if_pos rfl, if_neg (fun w => q0 w.1), if_neg (fun w => q0 w.1)]
    · rw [if_neg z]
      obtain ⟨p', g1, g2, _⟩ := ixIn_at ((ho l (List.mem_cons_self ..)).resolve_left z)
      simp only [List.getElem?_set]
      by_cases y : ixIn qs s l = j
      · have e : p' = q := by rw [y, hq] at g1; exact (Option.some.inj g1).symm
        subst e
        have e1 : p'.2.2.1 = s := (Prod.mk.inj g2).1
        have e2 : p'.2.2.2 = l := (Prod.mk.inj g2).2
        rw [if_neg (fun w => h1 (e2 ▸ w.2)), if_pos (⟨e1, by rw [e2]; exact List.mem_cons_self ..⟩ : p'.2.2.1 = s ∧ p'.2.2.2 ∈ l :: r), y]
        simp [lj]
      · have ne : ¬ (q.2.2.1 = s ∧ q.2.2.2 = l) := fun w => y (nd_at nd g1 hq (by rw [g2]; unfold pe; rw [w.1, w.2]))
        rw [if_neg y]
        by_cases x : q.2.2.1 = s ∧ q.2.2.2 ∈ r
        · rw [if_pos x, if_pos ⟨x.1, List.mem_cons_of_mem _ x.2⟩]
        · rw [if_neg x, if_neg (fun w => by
            rcases List.mem_cons.mp w.2 with e | e
            · exact ne ⟨w.1, e⟩
            · exact x ⟨w.1, e⟩)]
theorem giv_ct {qs : List Pipe} {ex : List (Nat × Nat)} (nb : (qs.map pb).Nodup) {s j : Nat} {r : Rw} {q : Pipe} (hq : qs[j]? = some q) : ∀ (os : List Nat) (p : List (List Bool) × List (List Bool)), os.Nodup → p.1.length = qs.length → ((os.foldl (giv1 qs ex s r) p).1[j]?).getD [] = (p.1[j]?).getD [] ++ if q.1 = s ∧ q.2.1 ∈ os then gvAt r q.2.1 else []
  | [], p, _, _ => by simp
  | o :: os, p, h, hl => by
    obtain ⟨h1, h2⟩ := List.nodup_cons.mp h
    have lj : j < p.1.length := by rw [hl]; exact (List.getElem?_eq_some_iff.mp hq).1
    have l1 : (giv1 qs ex s r p o).1.length = qs.length := by
      rw [← hl]
      unfold giv1
      split <;> simp
    rw [List.foldl_cons, giv_ct nb hq os _ h2 l1]
    unfold giv1
    cases z : qs.findIdx? (fun p => decide (pb p = (s, o))) with
    | none =>
      have ne : ¬ (q.1 = s ∧ q.2.1 = o) := fun w => by
        have := List.findIdx?_eq_none_iff.mp z q (List.mem_of_getElem? hq)
        simp [pb, w.1, w.2] at this
      show (p.1[j]?).getD [] ++ _ = _
      congr 1
      by_cases x : q.1 = s ∧ q.2.1 ∈ os
      · rw [if_pos x, if_pos ⟨x.1, List.mem_cons_of_mem _ x.2⟩]
      · rw [if_neg x, if_neg (fun w => by
          rcases List.mem_cons.mp w.2 with e | e
          · exact ne ⟨w.1, e⟩
          · exact x ⟨w.1, e⟩)]
    | some i =>
      obtain ⟨hi, hg, _⟩ := List.findIdx?_eq_some_iff_getElem.mp z
      have e1 : pb qs[i] = (s, o) := by simpa using hg
      simp only [List.getElem?_set]
      by_cases y : i = j
      · subst y
        have e : qs[i] = q := by rw [List.getElem?_eq_getElem hi] at hq; exact Option.some.inj hq
        rw [e] at e1
        have e2 : q.1 = s := (Prod.mk.inj e1).1
        have e3 : q.2.1 = o := (Prod.mk.inj e1).2
        rw [if_neg (show ¬ (q.1 = s ∧ q.2.1 ∈ os) from fun w => h1 (e3 ▸ w.2)), if_pos (⟨e2, by rw [e3]; exact List.mem_cons_self ..⟩ : q.1 = s ∧ q.2.1 ∈ o :: os), e3]
        simp [lj]
      · have ne : ¬ (q.1 = s ∧ q.2.1 = o) := fun w => y (nd_at nb (List.getElem?_eq_getElem hi) hq (by rw [e1]; unfold pb; rw [w.1, w.2]))
        rw [if_neg y]
        congr 1
        by_cases x : q.1 = s ∧ q.2.1 ∈ os
        · rw [if_pos x, if_pos ⟨x.1, List.mem_cons_of_mem _ x.2⟩]
        · rw [if_neg x, if_neg (fun w => by
            rcases List.mem_cons.mp w.2 with e | e
            · exact ne ⟨w.1, e⟩
            · exact x ⟨w.1, e⟩)]
theorem giv_fl {qs : List Pipe} {ex : List (Nat × Nat)} (nx : ex.Nodup) (dj : ∀ p ∈ qs, pb p ∉ ex) {s n : Nat} {r : Rw} {l : Nat × Nat} (hn : ex[n]? = some l) : ∀ (os : List Nat) (p : List (List Bool) × List (List Bool)), os.Nodup → p.2.length = ex.length → (∀ o ∈ os, (s, o) ∈ ex ∨ ∃ q ∈ qs, pb q = (s, o)) → ((os.foldl (giv1 qs ex s r) p).2[n]?).getD [] = (p.2[n]?).getD [] ++ if l.1 = s ∧ l.2 ∈ os then gvAt r l.2 else []
  | [], p, _, _, _ => by simp
  | o :: os, p, h, hl, ho => by
    obtain ⟨h1, h2⟩ := List.nodup_cons.mp h
    have lj : n < p.2.length := by rw [hl]; exact (List.getElem?_eq_some_iff.mp hn).1
    have l1 : (giv1 qs ex s r p o).2.length = ex.length := by
      rw [← hl]
      unfold giv1
      split <;> simp
    rw [List.foldl_cons, giv_fl nx dj hn os _ h2 l1 fun o' h' => ho o' (List.mem_cons_of_mem _ h')]
    have same : ¬ (l.1 = s ∧ l.2 = o) → (if l.1 = s ∧ l.2 ∈ os then gvAt r l.2 else []) = if l.1 = s ∧ l.2 ∈ o :: os then gvAt r l.2 else [] := fun ne => by
      by_cases x : l.1 = s ∧ l.2 ∈ os
      · rw [if_pos x, if_pos ⟨x.1, List.mem_cons_of_mem _ x.2⟩]
      · rw [if_neg x, if_neg (fun w => by
          rcases List.mem_cons.mp w.2 with e | e
          · exact ne ⟨w.1, e⟩
          · exact x ⟨w.1, e⟩)]
    unfold giv1
    cases z : qs.findIdx? (fun p => decide (pb p = (s, o))) with
    | some i =>
      obtain ⟨hi, hg, _⟩ := List.findIdx?_eq_some_iff_getElem.mp z
      have e1 : pb qs[i] = (s, o) := by simpa using hg
      have ne : ¬ (l.1 = s ∧ l.2 = o) := fun w => dj _ (List.getElem_mem hi) (by
        rw [e1, show (s, o) = l from by rw [← w.1, ← w.2]]
        exact List.mem_of_getElem? hn)
      show (p.2[n]?).getD [] ++ _ = _
      rw [same ne]
    | none =>
      have hx : (s, o) ∈ ex := (ho o (List.mem_cons_self ..)).resolve_right fun ⟨q, hq, e⟩ => by
        have := List.findIdx?_eq_none_iff.mp z q hq
        simp [e] at this
      have hi : (ex.findIdx fun l => decide (l = (s, o))) < ex.length := List.findIdx_lt_length_of_exists ⟨_, hx, by simp⟩
      have hg := List.findIdx_getElem (p := fun l => decide (l = (s, o))) (xs := ex) (w := hi)
      have e1 : ex[ex.findIdx fun l => decide (l = (s, o))] = (s, o) := of_decide_eq_true hg
      generalize hk : (ex.findIdx fun l => decide (l = (s, o))) = k at *
      simp only [List.getElem?_set]
      by_cases y : k = n
      · subst y
        have e : l = (s, o) := by rw [List.getElem?_eq_getElem hi] at hn; rw [← Option.some.inj hn]; exact e1
        subst e
        rw [if_neg (show ¬ (s = s ∧ o ∈ os) from fun w => h1 w.2), if_pos (⟨rfl, List.mem_cons_self ..⟩ : s = s ∧ o ∈ o :: os)]
        simp [lj]
      · have ne : ¬ (l.1 = s ∧ l.2 = o) := fun w => y (nd_at (f := id) (xs := ex) (by simpa using nx) (List.getElem?_eq_getElem hi) hn (by rw [e1]; show (s, o) = l; rw [← w.1, ← w.2]))
        rw [if_neg y, same ne]
end FY

set_option Elab.async false
set_option linter.all false
set_option maxRecDepth 100000
set_option maxHeartbeats 4000000
namespace FY
/-! ### the two folds make the state behind a beat -/
theorem lines_nd (r : Rd) : r.lines.Nodup := by cases r <;> decide
theorem aft_fold {ts : List Stn} {qs : List Pipe} {ex : List (Nat × Nat)} {σ : Sta} {s : Nat} {r : Rw} (nd : (qs.map pe).Nodup) (nb : (qs.map pb).Nodup) (lt : ∀ p ∈ qs, p.1 < p.2.2.1) (nx : ex.Nodup) (dj : ∀ p ∈ qs, pb p ∉ ex) (lc : σ.ct.length = qs.length) (lf : σ.fl.length = ex.length) (hl : ∀ l ∈ (sgAt ts σ s).reads.lines, LineQ qs s l) (ho : ∀ o ∈ List.range r.gives.length, (s, o) ∈ ex ∨ ∃ q ∈ qs, pb q = (s, o)) {P : List Bool × List (List Bool)} {G : List (List Bool) × List (List Bool)} (hP : P = (sgAt ts σ s).reads.lines.foldl (pop1 qs s) (σ.rs, σ.ct)) (hG : G = (List.range r.gives.length).foldl (giv1 qs ex s r) (P.2, σ.fl)) : aftS ts qs ex σ s r = ⟨σ.sd.set s r.goal, G.1, P.1, G.2⟩ := by
  have nl := lines_nd (sgAt ts σ s).reads
  have lP : P.2.length = qs.length := by rw [hP, pop_len]; exact lc
  obtain ⟨g1, g2⟩ := giv_len qs ex s r (List.range r.gives.length) (P.2, σ.fl)
  rw [← hG] at g1 g2
  have gv0 : ∀ o, ¬ o ∈ List.range r.gives.length → gvAt r o = [] := fun o h => by
    unfold gvAt
    rw [List.getElem?_eq_none (by simpa using h)]
    rfl
  unfold aftS
  show Sta.mk _ _ _ _ = Sta.mk _ _ _ _
  congr 1
  · refine List.ext_getElem? fun j => ?_
    rw [List.getElem?_mapIdx]
    cases z : qs[j]? with
    | none =>
      have h9 := List.getElem?_eq_none_iff.mp z
      rw [List.getElem?_eq_none (show G.1.length ≤ j by rw [g1]; show P.2.length ≤ j; omega)]
      rfl
    | some q =>
      have h1 := giv_ct (ex := ex) (s := s) (r := r) nb z (List.range r.gives.length) (P.2, σ.fl) List.nodup_range lP
      have h2 := pop_ct nd lt z (sgAt ts σ s).reads.lines (σ.rs, σ.ct) nl lc hl
      rw [← hG] at h1
      rw [← hP] at h2
      have lj : j < G.1.length := by rw [g1]; show j < P.2.length; have := (List.getElem?_eq_some_iff.mp z).1; omega
      rw [List.getElem?_eq_getElem lj] at h1 ⊢
      simp only [Option.map_some]
      have h1' : G.1[j] = (P.2[j]?).getD [] ++ if q.1 = s ∧ q.2.1 ∈ List.range r.gives.length then gvAt r q.2.1 else [] := h1
      rw [h1', h2]
      congr 2
      by_cases y : q.1 = s
      · by_cases x : q.2.1 ∈ List.range r.gives.length
        · rw [if_pos y, if_pos ⟨y, x⟩]
        · rw [if_pos y, if_neg (fun w => x w.2), gv0 _ x]
      · rw [if_neg y, if_neg (fun w => y w.1)]
  · have h2 := pop_rs (qs := qs) (s := s) (sgAt ts σ s).reads.lines (σ.rs, σ.ct) nl
    rw [← hP] at h2
    exact h2.symm
  · refine List.ext_getElem? fun j => ?_
    rw [List.getElem?_mapIdx]
    cases z : ex[j]? with
    | none =>
      have h9 := List.getElem?_eq_none_iff.mp z
      rw [List.getElem?_eq_none (show G.2.length ≤ j by rw [g2]; show σ.fl.length ≤ j; omega)]
      rfl
    | some q =>
      have h1 := giv_fl (s := s) (r := r) nx dj z (List.range r.gives.length) (P.2, σ.fl) List.nodup_range lf ho
      rw [← hG] at h1
      have lj : j < G.2.length := by rw [g2]; show j < σ.fl.length; have := (List.getElem?_eq_some_iff.mp z).1; omega
      rw [List.getElem?_eq_getElem lj] at h1 ⊢
      simp only [Option.map_some]
      have h1' : G.2[j] = (σ.fl[j]?).getD [] ++ if q.1 = s ∧ q.2 ∈ List.range r.gives.length then gvAt r q.2 else [] := h1
      rw [h1']
      congr 2
      by_cases y : q.1 = s
      · by_cases x : q.2 ∈ List.range r.gives.length
        · rw [if_pos y, if_pos ⟨y, x⟩]
        · rw [if_pos y, if_neg (fun w => x w.2), gv0 _ x]
      · rw [if_neg y, if_neg (fun w => y w.1)]
theorem exits_nd (ts : List Stn) (ps : List Pipe) : (exitsOf ts ps).Nodup := (lines_nodup 0 ts).filter _
theorem exits_dj (ts : List Stn) (ps : List Pipe) : ∀ p ∈ srt ps, pb p ∉ exitsOf ts ps := fun p hp h => by
  have h2 := (List.mem_filter.mp h).2
  simp only [Bool.not_eq_true', decide_eq_false_iff_not] at h2
  exact h2 (List.mem_map_of_mem ((srt_perm ps).mem_iff.mp hp))
/-- the contents stay short -/
theorem pop_short (qs : List Pipe) (s n : Nat) : ∀ (ls : List Nat) (p : List Bool × List (List Bool)), p.1.length ≤ n → (∀ b ∈ p.2, b.length ≤ n) → (ls.foldl (pop1 qs s) p).1.length ≤ n ∧ ∀ b ∈ (ls.foldl (pop1 qs s) p).2, b.length ≤ n
  | [], p, h1, h2 => ⟨h1, h2⟩
  | l :: r, p, h1, h2 => by
    rw [List.foldl_cons]
    refine pop_short qs s n r _ ?_ ?_
    · unfold pop1
      split
      · show (p.1.drop 1).length ≤ n
        rw [List.length_drop]; omega
      · exact h1
    · unfold pop1
      split
      · exact h2
      · intro b hb
        rcases List.mem_or_eq_of_mem_set hb with e | e
        · exact h2 b e
        · rw [e, List.length_drop]
          cases z : p.2[ixIn qs s l]? with
          | none => exact Nat.zero_le _
          | some c =>
            have := h2 c (List.mem_of_getElem? z)
            show c.length - 1 ≤ n
            omega
theorem giv_short (qs : List Pipe) (ex : List (Nat × Nat)) (s : Nat) (r : Rw) (hr : ∀ o, (gvAt r o).length ≤ 2) : ∀ (os : List Nat) (p : List (List Bool) × List (List Bool)) (n : Nat), (∀ b ∈ p.1, b.length ≤ n) → (∀ b ∈ p.2, b.length ≤ n) → (∀ b ∈ (os.foldl (giv1 qs ex s r) p).1, b.length ≤ n + 2 * os.length) ∧ ∀ b ∈ (os.foldl (giv1 qs ex s r) p).2, b.length ≤ n + 2 * os.length
  | [], p, n, h1, h2 => ⟨h1, h2⟩
  | o :: os, p, n, h1, h2 => by
    rw [List.foldl_cons]
    have k : ∀ (q : List (List Bool)) (i : Nat), (∀ b ∈ q, b.length ≤ n) → ∀ b ∈ q.set i ((q[i]?).getD [] ++ gvAt r o), b.length ≤ n + 2 := by
      intro q i hq b hb
      rcases List.mem_or_eq_of_mem_set hb with e | e
      · have := hq b e; omega
      · rw [e, List.length_append]
        have := hr o
        cases z : q[i]? with
        | none => show 0 + _ ≤ _; omega
        | some c =>
          have := hq c (List.mem_of_getElem? z)
          show c.length + _ ≤ _
          omega
    have w : ∀ (q : List (List Bool)), (∀ b ∈ q, b.length ≤ n) → ∀ b ∈ q, b.length ≤ n + 2 := fun q hq b hb => Nat.le_trans (hq b hb) (by omega)
    have := giv_short qs ex s r hr os (giv1 qs ex s r p o) (n + 2) (by
      unfold giv1
      split
      · exact k _ _ h1
      · exact w _ h1) (by
      unfold giv1
      split
      · exact w _ h2
      · exact k _ _ h2)
    rw [show n + 2 * (o :: os).length = n + 2 + 2 * os.length by simp; omega]
    exact this
end FY

set_option Elab.async false
set_option linter.all false
set_option maxRecDepth 100000
set_option maxHeartbeats 4000000
namespace FY
open PySem L2 FYR
theorem cut_from1 (bs : List Bool) : cutS (tx bs) (some (1 : Int)) none = tx (bs.drop 1) := by
  rw [cut_tx, HT.sIx_none, show (1 : Int) = ((1 : Nat) : Int) from rfl, HT.sIx_nat]
  congr 1
  cases bs with
  | nil => rfl
  | cons a r => simp [List.take_of_length_le]
theorem tV_at {bs : List (List Bool)} {j : Nat} (h : j < bs.length) : (tV bs)[j]? = some (.str (tx bs[j])) := by
  unfold tV
  rw [List.getElem?_map, List.getElem?_eq_getElem h]
  rfl
theorem nV_at {ns : List Nat} {j : Nat} (h : j < ns.length) : (nV ns)[j]? = some (.int (ns[j] : Nat)) := by
  unfold nV
  rw [List.getElem?_map, List.getElem?_eq_getElem h]
  rfl
theorem tV_len (bs : List (List Bool)) : (tV bs).length = bs.length := by unfold tV; rw [List.length_map]
theorem nV_len (bs : List Nat) : (nV bs).length = bs.length := by unfold nV; rw [List.length_map]
theorem tV_set (bs : List (List Bool)) (j : Nat) (b : List Bool) : (tV bs).set j (.str (tx b)) = tV (bs.set j b) := by unfold tV; rw [List.map_set]
theorem nV_set (bs : List Nat) (j b : Nat) : (nV bs).set j (.int (b : Nat)) = nV (bs.set j b) := by unfold nV; rw [List.map_set]
theorem ixN_nat {n j : Nat} (h : j < n) : ixN n (j : Int) = some j := by
  unfold ixN
  rw [if_pos (by omega), if_pos (by omega)]
  rfl
theorem gv_short {r : Rw} {a b : Nat} (h : r.ok a b) (o : Nat) : (gvAt r o).length ≤ 2 := by
  unfold gvAt
  cases z : r.gives[o]? with
  | none => exact Nat.zero_le _
  | some g => exact h.2.1 g (List.mem_of_getElem? z)
def spAfter (CY C : Addr) : Sp := fun vs H Q _ => ∃ (y : Addr) (v : V) (σ : Sta) (s : Nat) (t : Stn) (r : Rw) (ts : List Stn) (ps : List Pipe), vs = [.ref y, v, .int (s : Nat)] ∧ YdA CY C H y ts ps ∧ StaA H v σ ∧ StOk ts ps σ ∧ (∀ b ∈ σ.fl, b.length ≤ 100000) ∧ YdOk ts ps ∧ AllIn ts (srt ps) ∧ ts[s]? = some t ∧ rowS ts (srt ps) σ s = some r ∧ ∀ H' u, Same H H' → StaA H' u (aftS ts (srt ps) (exitsOf ts ps) σ s r) → Q u H'
section
variable {P : Program} {w : World} {K : PySem.W.Frag} {mg : Str → Option Value} {base : Heap} {aS a1 a2 aL aT : Addr} {f : Addr} {fd : FuncData} {C CD CY : Addr} {mc : Value}
abbrev s_after_beat : Stmt := top 64
abbrev N_after_beat : List Str := ["yard", "state", "station", "standings", "contents", "flows", "rest", "gives", "goal", "ticks", "reads", "line", "place", "text", "is_pipe"]
theorem sc_after_beat : FnScope N_after_beat ["yard", "state", "station"] (defScope s_after_beat) := ⟨rfl, rfl, rfl, by decide +kernel, rfl, by decide +kernel, by decide +kernel⟩
theorem ok_after_beat (F : Fun K "after_beat" "after_beat" s_after_beat f fd) (T : Txt K mg aS a1 a2) (L : Lin K w mg aL) (LT : LinT K aL) (S : StC K mg C) (Y : YdF K CY) (c_beat_row : C8.Cal P w K mg base 2 "beat_row" (spBeatRow CY C) []) : FnOk P w K mg base CX0 3 f fd ["yard", "state", "station"] (spAfter CY C) := by
  refine F.ok sc_after_beat (fun vs H Q E h => ?_) (fun cdv A outer s0 H vs Q E hr h => ?_)
  · obtain ⟨y, v, σ, s, t, r, ts, ps, rfl, _⟩ := h
    rfl
  obtain ⟨y, v, σ, s, t, r, ts, ps, rfl, ya, sa, so, fb, yo, al, et, er, q⟩ := h
  obtain ⟨esL, nL, kd⟩ := L.kd
  have sa0 := sa
  obtain ⟨va, vp, vq, vr, rfl, h1, h2, h3, h4⟩ := sa
  have tok := yo.ok t (List.mem_of_getElem? et)
  have rok := row_in so et tok er
  refine ⟨_, (pss_cons (ps_par3 (i := 3) (j := 4) (l := 5) rfl sc_after_beat.nd rfl rfl rfl (by decide) (by decide) (by decide) rfl rfl rfl (pa_cons (pe_callTy call_list_of rfl T.b_list bt_list (pa_cons (pe_ix (kIxT K rfl) (pv 1) pe_int (fun _ _ => rfl)) pa_nil)) (pa_cons (pe_callTy call_list_of rfl T.b_list bt_list (pa_cons (pe_ix (kIxT K rfl) (pv 1) pe_int (fun _ _ => rfl)) pa_nil)) (pa_cons (pe_callTy call_list_of rfl T.b_list bt_list (pa_cons (pe_ix (kIxT K rfl) (pv 1) pe_int (fun _ _ => rfl)) pa_nil)) pa_nil))) rfl)
        (pss_cons (ps_set (i := 6) sc_after_beat.nd rfl (Or.inl rfl) (pe_ix (kIxT K rfl) (pv 1) pe_int (fun _ _ => rfl)))
        (pss_cons (ps_asg (C8.pe_c c_beat_row hr (by decide) rfl (pa_cons (pv 0) (pa_cons (pv 1) (pa_cons (pv 2) pa_nil)))) (kTupG (n := 3) K rfl rfl (pgs_cons (pg_name (i := 7) sc_after_beat.nd rfl (Or.inl rfl)) (pgs_cons (pg_name (i := 8) sc_after_beat.nd rfl (Or.inl rfl)) (pgs_cons (pg_name (i := 9) sc_after_beat.nd rfl (Or.inl rfl)) pgs_nil)))))
        (pss_cons (ps_set (i := 10) sc_after_beat.nd rfl (Or.inl rfl) (pe_ix (kIxT K rfl) (pe_ix (kIxT K rfl) (kFld K rfl (pe_ix (kIxT K rfl) (kFld K rfl (pv 0)) (pv 2) (fun _ _ => rfl))) (pe_ix (kIxL K rfl) (pv 3) (pv 2) (fun _ _ => rfl)) (fun _ _ => rfl)) pe_int (fun _ _ => rfl)))
        (pss_cons (ps_for PassesOwn.never rfl (kTup K rfl (pe_kd rfl rfl kd (C8.pe_gc rfl L.g_LINES) (pv 10) (fun _ _ => rfl))) (pg_name (i := 11) sc_after_beat.nd rfl (Or.inl rfl))
        (pss_one (ps_if (pt_cmpR (kEqD K rfl hr.units) (pe_tup (pa_cons (pv 2) (pa_cons (pv 11) pa_nil))) (pe_tup (pa_cons pe_int (pa_cons pe_int pa_nil))) (nomark _))
        (pss_one (ps_set (i := 6) sc_after_beat.nd rfl (Or.inl rfl) (pe_slice sl_str (pv 6) (po_some pe_int) po_none)))
        (pss_cons (ps_set (i := 12) sc_after_beat.nd rfl (Or.inl rfl) (pe_dget (hu1 hr) (kFld K rfl (pv 0)) (pe_tup (pa_cons (pv 2) (pa_cons (pv 11) pa_nil))) (fun _ _ => rfl)))
        (pss_one (ps_asg (pe_slice sl_str (pe_ix (kIxL K rfl) (pv 4) (pv 12) (fun _ _ => rfl)) (po_some pe_int) po_none) (pg_sub (pv 4) (pv 12) set_list)))))))
        (pss_cons (ps_for PassesOwn.never rfl (pi_enumT K rfl rfl T.b_enumerate (pa_cons (pv 7) pa_nil)) (kTupG (n := 2) K rfl rfl (pgs_cons (pg_name (i := 11) sc_after_beat.nd rfl (Or.inl rfl)) (pgs_cons (pg_name (i := 13) sc_after_beat.nd rfl (Or.inl rfl)) pgs_nil)))
        (pss_cons (ps_asg (pe_dget (hu1 hr) (kFld K rfl (pv 0)) (pe_tup (pa_cons (pv 2) (pa_cons (pv 11) pa_nil))) (fun _ _ => rfl)) (kTupG (n := 2) K rfl rfl (pgs_cons (pg_name (i := 14) sc_after_beat.nd rfl (Or.inl rfl)) (pgs_cons (pg_name (i := 12) sc_after_beat.nd rfl (Or.inl rfl)) pgs_nil))))
        (pss_one (ps_if (pt_val (pv 14))
        (pss_one (ps_asg (pe_op op_add_str (pe_ix (kIxL K rfl) (pv 4) (pv 12) (fun _ _ => rfl)) (pv 13)) (pg_sub (pv 4) (pv 12) set_list)))
        (pss_one (ps_asg (pe_op op_add_str (pe_ix (kIxL K rfl) (pv 5) (pv 12) (fun _ _ => rfl)) (pv 13)) (pg_sub (pv 5) (pv 12) set_list)))))))
        (pss_cons (ps_asg (pv 8) (pg_sub (pv 3) (pv 2) set_list))
        (pss_one (ps_ret (pe_tup (pa_cons (pe_callTy (kTupOf K rfl) rfl T.b_tuple bt_tuple (pa_cons (pv 3) pa_nil)) (pa_cons (pe_callTy (kTupOf K rfl) rfl T.b_tuple bt_tuple (pa_cons (pv 4) pa_nil)) (pa_cons (pv 6) (pa_cons (pe_callTy (kTupOf K rfl) rfl T.b_tuple bt_tuple (pa_cons (pv 5) pa_nil)) pa_nil)))))))))))))), ?_⟩
  refine ⟨_, rfl, _, _, _, _, rfl, rfl, SqT.of h1, atI_nat (i := 0) rfl, _, _, rfl, .inr (SqT.of h2), fun S1 hS1 => ?_⟩
  have k1 := same_new hS1 (.lst (nV σ.sd))
  refine ⟨_, rfl, _, _, _, _, rfl, rfl, SqT.of (k1 _ _ h1), atI_nat (i := 1) rfl, _, _, rfl, .inr (SqT.of (k1 _ _ h3)), fun S2 hS2 => ?_⟩
  have k2 := same_new hS2 (.lst (tV σ.ct))
  have s2 := k1.trans' k2
  refine ⟨_, rfl, _, _, _, _, rfl, rfl, SqT.of (s2 _ _ h1), atI_nat (i := 3) rfl, _, _, rfl, .inr (SqT.of (s2 _ _ h4)), fun S3 hS3 => ⟨_, _, _, rfl, ?_⟩⟩
  have k3 := same_new hS3 (.lst (tV σ.fl))
  have s4 := s2.trans' k3
  have e1 := (k2.trans' k3) S1 _ upd_same
  have e2 := k3 S2 _ upd_same
  have e3 : (upd (upd (upd H S1 (.lst (nV σ.sd))) S2 (.lst (tV σ.ct))) S3 (.lst (tV σ.fl))) S3 = some (.lst (tV σ.fl)) := upd_same
  refine ⟨_, rfl, _, _, _, _, rfl, rfl, SqT.of (s4 _ _ h1), atI_nat (i := 2) rfl, ?_⟩
  refine ⟨_, rfl, _, rfl, _, rfl, y, .ref va, σ, s, t, ts, ps, rfl, ya.nl (NL.of s4), sa0.keep (Tups.of s4), so, et, tok, al, fun H5 u s5 ru => ?_⟩
  rw [er] at ru
  obtain ⟨ra, rg, rfl, hra, hrg⟩ := ru
  have s5' := s4.trans' s5
  refine ⟨_, _, rfl, SqT.of hra, rfl, _, _, rfl, _, _, rfl, _, _, rfl, rfl, ?_⟩
  have ya5 := ya.nl (NL.of s5')
  obtain ⟨dx, a, b, c, d, e, f', hy, ⟨us, ha, pus⟩, _⟩ := ya5.ob
  obtain ⟨u, hu, sA, sdx, sp, sps, rfl, hsa, hsp, psg⟩ := paired_at pus et
  have ls : s < σ.sd.length := by rw [so.ls]; exact lt_len et
  have eg : σ.sd[s]? = some σ.sd[s] := List.getElem?_eq_getElem ls
  have lg := so.st s t _ et eg
  have esg : t.stgs[σ.sd[s]]? = some t.stgs[σ.sd[s]] := List.getElem?_eq_getElem lg
  obtain ⟨gv, hgv, ga, gq, gws, rfl, hga, hgq, prw⟩ := paired_at psg esg
  have sgok := tok.sg _ (List.getElem_mem lg)
  have eS : sgAt ts σ s = t.stgs[σ.sd[s]] := by unfold sgAt; rw [et, eg]; show (t.stgs[σ.sd[s]]?).getD _ = _; rw [esg]; rfl
  generalize hsg : t.stgs[σ.sd[s]] = sg at *
  refine ⟨_, rfl, y, CY, dx, _, _, rfl, hy, Y.cl, Y.nS, rfl, _, rfl, _, _, _, _, rfl, rfl, SqT.of ha, atI_nat hu, sA, C, sdx, _, _, rfl, hsa, S.cl, S.nS, rfl, _, rfl, _, rfl, _, _, _, _, rfl, rfl, SqL.of (s5 _ _ e1), atI_nat (nV_at ls), _, _, _, _, rfl, rfl, SqT.of hsp, atI_nat hgv, _, _, _, _, rfl, rfl, SqT.of hga, atI_nat (i := 0) rfl, ?_⟩
  obtain ⟨la, hla, sqL⟩ := LT.ln sg.reads
  have ya5' := ya5
  obtain ⟨dx2, b1, b2, b3, b4, b5, b6, kv, kw, hy2, he2, hi2, hf2, on⟩ := ya5'.dc
  have lq : ∀ l ∈ sg.reads.lines, LineQ (srt ps) s l := fun l hl => all_line al et (sg_lines sgok tok.i1 hl)
  have PPs := fun ls : List Nat => pop_short (srt ps) s 100000 ls (σ.rs, σ.ct) so.rb so.cb
  have PPl := fun ls : List Nat => pop_len (srt ps) s ls (σ.rs, σ.ct)
  have e1' := s5 _ _ e1
  have e2' := s5 _ _ e2
  have e3' := s5 _ _ e3
  have n12 : S1 ≠ S2 := ne_of_none upd_same hS2
  have n13 : S1 ≠ S3 := ne_of_none (k2 _ _ upd_same) hS3
  have n23 : S2 ≠ S3 := ne_of_none upd_same hS3
  have hn2 : H S2 = none := by cases z : H S2 with | none => rfl | some o => exact absurd (k1 _ _ z) (by rw [hS2]; exact nofun)
  have hn3 : H S3 = none := by cases z : H S3 with | none => rfl | some o => exact absurd (s2 _ _ z) (by rw [hS3]; exact nofun)
  refine ⟨_, rfl, _, _, V.ref la, rfl, rfl, hla, rfl, _, rfl, ⟨_, sqL _⟩, for_it walk_tup (fun i τ H' => (∃ a b c d, τ = [some (.ref y), some (.ref va), some (.int (s : Nat)), some (.ref S1), some (.ref S2), some (.ref S3), some (.str (tx ((sg.reads.lines.take i).foldl (pop1 (srt ps) s) (σ.rs, σ.ct)).1)), some (.ref rg), some (.int (r.goal : Nat)), some (.int (r.ticks : Nat)), some (.str sg.reads.s), a, b, c, d]) ∧ Same H H' ∧ NL H5 H' ∧ H' S1 = some (.lst (nV σ.sd)) ∧ H' S2 = some (.lst (tV ((sg.reads.lines.take i).foldl (pop1 (srt ps) s) (σ.rs, σ.ct)).2)) ∧ H' S3 = some (.lst (tV σ.fl))) ⟨⟨_, _, _, _, rfl⟩, s5', NL.of (Same.refl _), e1', e2', e3'⟩ (fun i τ H' _ z => sqL _) ?_ ?_⟩
  · rintro i x τ G1 G2 hi ⟨⟨a, b, c, d, rfl⟩, sm, nl, g1, g2, g3⟩ ⟨rfl, hx⟩
    obtain ⟨l, hl, rfl⟩ := List.getElem?_map_some hx
    have hlm := List.mem_of_getElem? hl
    have eT : sg.reads.lines.take (i + 1) = sg.reads.lines.take i ++ [l] := by rw [List.take_succ, hl]; rfl
    have eF : (sg.reads.lines.take (i + 1)).foldl (pop1 (srt ps) s) (σ.rs, σ.ct) = pop1 (srt ps) s ((sg.reads.lines.take i).foldl (pop1 (srt ps) s) (σ.rs, σ.ct)) l := by rw [eT, List.foldl_append]; rfl
    obtain ⟨p1s, p2s⟩ := PPs (sg.reads.lines.take i)
    have plen := PPl (sg.reads.lines.take i)
    generalize hP0 : (sg.reads.lines.take i).foldl (pop1 (srt ps) s) (σ.rs, σ.ct) = P0 at *
    refine ⟨_, rfl, _, rfl, sz rfl, fun p1 hp1 => ⟨sz rfl, fun p2 hp2 => ?_⟩⟩
    have k1 := same_new hp1 (.tup [.int (s : Nat), .int (l : Nat)])
    have k2 := same_new hp2 (.tup [.int 0, .int 0])
    have k12 := k1.trans' k2
    refine ⟨.tuple [.int (s : Nat), .int (l : Nat)], .tuple [.int ((0 : Nat) : Int), .int ((0 : Nat) : Int)], .tup (SqT.of (k2 _ _ upd_same)) (.cons (.int _) (.cons (.int _) .nil)), .tup (SqT.of upd_same) (.cons (.int _) (.cons (.int _) .nil)), by rfl, by rfl, _, rfl, ?_⟩
    rw [eqv_nn]
    have e4 : (s, l) = (0, 0) ∨ (s, l) ≠ (0, 0) := by by_cases z : (s, l) = (0, 0); exact .inl z; exact .inr z
    rcases e4 with z | z
    · refine iteTd (decide_eq_true z) ⟨_, rfl, 1, rfl, _, rfl, by rw [tx_len]; exact Nat.le_trans p1s (by decide), ?_⟩
      have eP : pop1 (srt ps) s P0 l = (P0.1.drop 1, P0.2) := by unfold pop1; rw [if_pos z]
      rw [cut_from1]
      dsimp only
      rw [eF, eP]
      exact ⟨⟨_, _, _, _, rfl⟩, sm.trans' k12, nl.trans (NL.of k12), k12 _ _ g1, k12 _ _ g2, k12 _ _ g3⟩
    · refine iteFd (decide_eq_false z) ⟨_, rfl, y, CY, dx2, _, _, rfl, k12 _ _ (nl _ _ (fun xs z => nomatch z) hy2), Y.cl, Y.nI, rfl, _, rfl, _, rfl, sz rfl, fun p3 hp3 => ?_⟩
      have k3 := same_new hp3 (.tup [.int (s : Nat), .int (l : Nat)])
      have k13 := k12.trans' k3
      obtain ⟨pp, q1, q2, q3⟩ := ixIn_at ((lq l hlm).resolve_left z)
      have v1 := hi2 _ _ q1
      rw [q2] at v1
      refine ⟨_, _, rfl, .inr ⟨kv, kL2 (s, l), p3, .inl (k13 _ _ (nl _ _ (fun xs z => nomatch z) he2)), rfl, upd_same, v1.symm⟩, ?_⟩
      have lj : ixIn (srt ps) s l < P0.2.length := by rw [plen]; show _ < σ.ct.length; rw [so.lc]; exact lt_len q1
      have eP : pop1 (srt ps) s P0 l = (P0.1, P0.2.set (ixIn (srt ps) s l) (P0.2[ixIn (srt ps) s l].drop 1)) := by unfold pop1; rw [if_neg z, List.getElem?_eq_getElem lj]; rfl
      refine ⟨_, rfl, _, rfl, _, _, _, _, rfl, rfl, SqL.of (k13 _ _ g2), atI_nat (tV_at lj), 1, rfl, _, rfl, by rw [tx_len]; exact Nat.le_trans (p2s _ (List.getElem_mem lj)) (by decide), ?_⟩
      rw [cut_from1]
      refine ⟨_, rfl, _, rfl, _, _, _, _, rfl, rfl, k13 _ _ g2, ixN_nat (by rw [tV_len]; exact lj), ?_⟩
      dsimp only
      rw [eF, eP, tV_set]
      exact ⟨⟨_, _, _, _, rfl⟩, same_at (sm.trans' k13) hn2, (nl.trans (NL.of k13)).trans (NL.at (k13 _ _ g2)), (upd_ne n12).trans (k13 _ _ g1), upd_same, (upd_ne n23.symm).trans (k13 _ _ g3)⟩
  rintro τ H6 ⟨⟨a, b, c, d, rfl⟩, sm, nl, g1, g2, g3⟩
  rw [nV_len, List.take_length] at g2
  rw [nV_len, List.take_length]
  obtain ⟨p1s, p2s⟩ := PPs sg.reads.lines
  have plen := PPl sg.reads.lines
  have hPe : sg.reads.lines.foldl (pop1 (srt ps) s) (σ.rs, σ.ct) = (sgAt ts σ s).reads.lines.foldl (pop1 (srt ps) s) (σ.rs, σ.ct) := by rw [eS]
  generalize hP0 : sg.reads.lines.foldl (pop1 (srt ps) s) (σ.rs, σ.ct) = P0 at *
  have gs := giv_short (srt ps) (exitsOf ts ps) s r (gv_short rok)
  have gl := giv_len (srt ps) (exitsOf ts ps) s r
  have r2 : r.gives.length ≤ 2 := by rw [rok.1]; exact tok.o2
  have hrg6 := nl.tups _ _ hrg
  refine ⟨_, rfl, _, _, rfl, SqT.of hrg6, for_it walk_enumT (fun i τ H' => (∃ a b c d, τ = [some (.ref y), some (.ref va), some (.int (s : Nat)), some (.ref S1), some (.ref S2), some (.ref S3), some (.str (tx P0.1)), some (.ref rg), some (.int (r.goal : Nat)), some (.int (r.ticks : Nat)), some (.str sg.reads.s), a, b, c, d]) ∧ Same H H' ∧ NL H5 H' ∧ H' S1 = some (.lst (nV σ.sd)) ∧ H' S2 = some (.lst (tV ((List.range i).foldl (giv1 (srt ps) (exitsOf ts ps) s r) (P0.2, σ.fl)).1)) ∧ H' S3 = some (.lst (tV ((List.range i).foldl (giv1 (srt ps) (exitsOf ts ps) s r) (P0.2, σ.fl)).2))) ⟨⟨_, _, _, _, rfl⟩, sm, nl, g1, g2, g3⟩ (fun i τ H' _ z => SqT.of (z.2.2.1.tups _ _ hrg)) ?_ ?_⟩
  · rintro i x τ G1 G2 hi ⟨⟨a, b, c, d, rfl⟩, sm, nl, g1, g2, g3⟩ ⟨T0, i1, i2, rfl, hT0, rfl, hi1, hi2'⟩
    obtain rfl : V.int (i : Nat) = i1 := Option.some.inj hi1
    obtain ⟨g, hg, rfl⟩ := List.getElem?_map_some hi2'
    have eg : gvAt r i = g := by unfold gvAt; rw [hg]; rfl
    have gl2 : g.length ≤ 2 := rok.2.1 g (List.mem_of_getElem? hg)
    have ig := lt_len hg
    have io : i < t.outs := by rw [← rok.1]; exact ig
    have eF : (List.range (i + 1)).foldl (giv1 (srt ps) (exitsOf ts ps) s r) (P0.2, σ.fl) = giv1 (srt ps) (exitsOf ts ps) s r ((List.range i).foldl (giv1 (srt ps) (exitsOf ts ps) s r) (P0.2, σ.fl)) i := by rw [List.range_succ, List.foldl_append]; rfl
    obtain ⟨s1, s2'⟩ := gs (List.range i) (P0.2, σ.fl) 100000 p2s fb
    obtain ⟨l1, l2⟩ := gl (List.range i) (P0.2, σ.fl)
    rw [List.length_range] at s1 s2'
    generalize hQ0 : (List.range i).foldl (giv1 (srt ps) (exitsOf ts ps) s r) (P0.2, σ.fl) = Q0 at *
    have k0 := same_new hT0 (.tup [.int (i : Nat), .str (tx g)])
    refine ⟨_, _, rfl, SqT.of upd_same, rfl, _, _, rfl, _, _, rfl, rfl, _, rfl, y, CY, dx2, _, _, rfl, k0 _ _ (nl _ _ (fun xs z => nomatch z) hy2), Y.cl, Y.nO, rfl, _, rfl, _, rfl, sz rfl, fun p3 hp3 => ?_⟩
    have k3 := same_new hp3 (.tup [.int (s : Nat), .int (i : Nat)])
    have k03 := k0.trans' k3
    have nl3 := nl.trans (NL.of k03)
    cases zf : (srt ps).findIdx? (fun p => decide (pb p = (s, i))) with
    | none =>
      have hx : (s, i) ∈ exitsOf ts ps := (out_ok (ps := ps) et io).resolve_right fun ⟨q, hq, e⟩ => by
        have := List.findIdx?_eq_none_iff.mp zf q hq
        simp [e] at this
      have hxi : ((exitsOf ts ps).findIdx fun l => decide (l = (s, i))) < (exitsOf ts ps).length := List.findIdx_lt_length_of_exists ⟨_, hx, by simp⟩
      have hxg : (exitsOf ts ps)[(exitsOf ts ps).findIdx fun l => decide (l = (s, i))]? = some (s, i) := by
        rw [List.getElem?_eq_getElem hxi]
        exact congrArg some (of_decide_eq_true (List.findIdx_getElem (p := fun l => decide (l = (s, i))) (xs := exitsOf ts ps) (w := hxi)))
      obtain ⟨a9, v9, h9⟩ := on.2 _ _ hxg
      have eP : giv1 (srt ps) (exitsOf ts ps) s r Q0 i = (Q0.1, Q0.2.set ((exitsOf ts ps).findIdx fun l => decide (l = (s, i))) ((Q0.2[(exitsOf ts ps).findIdx fun l => decide (l = (s, i))]?).getD [] ++ g)) := by unfold giv1; rw [zf, eg]
      generalize hn : ((exitsOf ts ps).findIdx fun l => decide (l = (s, i))) = n at *
      have lj : n < Q0.2.length := by rw [l2]; show _ < σ.fl.length; rw [so.lf]; exact hxi
      rw [List.getElem?_eq_getElem lj] at eP
      refine ⟨_, _, rfl, .inr ⟨kw, kL2 (s, i), p3, .inl (nl3 _ _ (fun xs z => nomatch z) hf2), rfl, upd_same, v9.symm⟩, _, _, rfl, SqT.of (nl3.tups _ _ h9), rfl, _, _, rfl, _, _, rfl, rfl, _, rfl, _, rfl, iteF ?_⟩
      refine ⟨_, rfl, _, rfl, _, _, _, _, rfl, rfl, SqL.of (k03 _ _ g3), atI_nat (tV_at lj), _, rfl, _, _, rfl, rfl, by rw [tx_len, tx_len]; exact Nat.le_trans (Nat.add_le_add (s2' _ (List.getElem_mem lj)) gl2) (Nat.le_trans (show 100000 + 2 * i + 2 ≤ 200000 by omega) (by decide)), ?_⟩
      rw [tx_app]
      refine ⟨_, rfl, _, rfl, _, _, _, _, rfl, rfl, k03 _ _ g3, ixN_nat (by rw [tV_len]; exact lj), ?_⟩
      dsimp only
      rw [eF, eP, tV_set]
      exact ⟨⟨_, _, _, _, rfl⟩, same_at (sm.trans' k03) hn3, nl3.trans (NL.at (k03 _ _ g3)), (upd_ne n13).trans (k03 _ _ g1), (upd_ne n23).trans (k03 _ _ g2), upd_same⟩
    | some j =>
      obtain ⟨j', a9, f9, j9, v9, h9⟩ := onto_pipe on (s := s) (o := i) (by
        obtain ⟨hi, hg, _⟩ := List.findIdx?_eq_some_iff_getElem.mp zf
        exact ⟨_, List.getElem_mem hi, by simpa using hg⟩)
      obtain rfl : j' = j := by rw [zf] at f9; exact (Option.some.inj f9).symm
      have lj : j' < Q0.1.length := by rw [l1, plen]; show _ < σ.ct.length; rw [so.lc]; exact j9
      have eP : giv1 (srt ps) (exitsOf ts ps) s r Q0 i = (Q0.1.set j' (Q0.1[j'] ++ g), Q0.2) := by unfold giv1; rw [zf, eg]; show (Q0.1.set j' ((Q0.1[j']?).getD [] ++ g), Q0.2) = _; rw [List.getElem?_eq_getElem lj]; rfl
      refine ⟨_, _, rfl, .inr ⟨kw, kL2 (s, i), p3, .inl (nl3 _ _ (fun xs z => nomatch z) hf2), rfl, upd_same, v9.symm⟩, _, _, rfl, SqT.of (nl3.tups _ _ h9), rfl, _, _, rfl, _, _, rfl, rfl, _, rfl, _, rfl, iteT ?_⟩
      refine ⟨_, rfl, _, rfl, _, _, _, _, rfl, rfl, SqL.of (k03 _ _ g2), atI_nat (tV_at lj), _, rfl, _, _, rfl, rfl, by rw [tx_len, tx_len]; exact Nat.le_trans (Nat.add_le_add (s1 _ (List.getElem_mem lj)) gl2) (Nat.le_trans (show 100000 + 2 * i + 2 ≤ 200000 by omega) (by decide)), ?_⟩
      rw [tx_app]
      refine ⟨_, rfl, _, rfl, _, _, _, _, rfl, rfl, k03 _ _ g2, ixN_nat (by rw [tV_len]; exact lj), ?_⟩
      dsimp only
      rw [eF, eP, tV_set]
      exact ⟨⟨_, _, _, _, rfl⟩, same_at (sm.trans' k03) hn2, nl3.trans (NL.at (k03 _ _ g2)), (upd_ne n12).trans (k03 _ _ g1), upd_same, (upd_ne n23.symm).trans (k03 _ _ g3)⟩
  rintro τ H7 ⟨⟨a, b, c, d, rfl⟩, sm, nl, g1, g2, g3⟩
  have lg7 : (r.gives.map fun b => V.str (tx b)).length = r.gives.length := List.length_map _
  rw [lg7] at g2 g3
  have eA := aft_fold (ts := ts) (σ := σ) (s := s) (r := r) (ex := exitsOf ts ps) (qs := srt ps) (((srt_perm ps).map pe).symm.nodup yo.ne) (((srt_perm ps).map pb).symm.nodup yo.nb) (fun p hp => (yo.pp p ((srt_perm ps).mem_iff.mp hp)).1) (exits_nd ts ps) (exits_dj ts ps) so.lc so.lf (by rw [eS]; exact lq) (fun o ho => out_ok (ps := ps) et (by rw [← rok.1]; exact List.mem_range.mp ho)) hPe rfl
  generalize hG : (List.range r.gives.length).foldl (giv1 (srt ps) (exitsOf ts ps) s r) (P0.2, σ.fl) = G at *
  refine ⟨_, rfl, _, rfl, _, rfl, _, _, _, _, rfl, rfl, g1, ixN_nat (by rw [nV_len]; exact ls), ?_⟩
  rw [nV_set]
  have u2 := (upd_ne (H := H7) (o := .lst (nV (σ.sd.set s r.goal))) n12.symm).trans g2
  have u3 := (upd_ne (H := H7) (o := .lst (nV (σ.sd.set s r.goal))) n13.symm).trans g3
  refine ⟨_, rfl, _, _, rfl, .inl ⟨SqL.of upd_same, fun t1 ht1 => ?_⟩⟩
  have j1 := same_new ht1 (.tup (nV (σ.sd.set s r.goal)))
  refine ⟨_, rfl, _, _, rfl, .inl ⟨SqL.of (j1 _ _ u2), fun t2 ht2 => ?_⟩⟩
  have j2 := same_new ht2 (.tup (tV G.1))
  have j12 := j1.trans' j2
  refine ⟨_, rfl, _, rfl, _, _, rfl, .inl ⟨SqL.of (j12 _ _ u3), fun t3 ht3 => ⟨sz rfl, fun t4 ht4 => ?_⟩⟩⟩
  have j3 := same_new ht3 (.tup (tV G.2))
  have j4 := same_new ht4 (.tup [.ref t1, .ref t2, .str (tx P0.1), .ref t3])
  have j34 := j3.trans' j4
  refine q _ _ ((same_at sm hS1).trans' (j12.trans' j34)) ?_
  rw [eA]
  exact ⟨t4, t1, t2, t3, rfl, upd_same, (j2.trans' j34) _ _ upd_same, j34 _ _ upd_same, j4 _ _ upd_same⟩
end
end FY


set_option Elab.async false
set_option linter.all false
set_option maxRecDepth 100000
set_option maxHeartbeats 4000000
namespace FY
open PySem L2 FYR
def SzIn : Option (List Nat) → Prop
  | none => True
  | some zs => ∀ z ∈ zs, 1 ≤ z ∧ z ≤ 3
def FlOk (σ : Sta) : Prop := ∀ b ∈ σ.fl, b.length ≤ 100000
def spWSt (CY C : Addr) : Sp := fun vs H Q _ => ∃ (y : Addr) (s : Nat) (ts : List Stn) (ps : List Pipe), vs = [.ref y, .int (s : Nat)] ∧ YdA CY C H y ts ps ∧ YdOk ts ps ∧ s < ts.length ∧ Q .non H
def spSizes (CY C : Addr) : Sp := fun vs H Q _ => ∃ (y Z : Addr) (zs : List Nat) (ts : List Stn) (ps : List Pipe), vs = [.ref y, .ref Z] ∧ YdA CY C H y ts ps ∧ H Z = some (.tup (nV zs)) ∧ zs.length = (srt ps).length ∧ zs.length ≤ 100 ∧ (∀ z ∈ zs, 1 ≤ z ∧ z ≤ 3) ∧ ∀ H', Same H H' → Q (.bl true) H'
def spWSz (CY C : Addr) : Sp := fun vs H Q _ => ∃ (y : Addr) (zv : V) (z : Option (List Nat)) (ts : List Stn) (ps : List Pipe), vs = [.ref y, zv] ∧ YdA CY C H y ts ps ∧ YdOk ts ps ∧ SzA H zv z ∧ SzOk ps z ∧ SzIn z ∧ ∀ H', Same H H' → Q .non H'
def spStL (C : Addr) : Sp := fun vs H Q _ => ∃ (v : V) (t : Stn), vs = [v] ∧ StnA C H v t ∧ Q (.int (t.stgs.length : Nat)) H
theorem paired_len2 {α β : Type} {R : α → β → Prop} {a : List α} {b : List β} (h : Paired R a b) : a.length = b.length := by
  induction h with
  | nil => rfl
  | cons _ _ ih => simp [ih]
section
variable {P : Program} {w : World} {K : PySem.W.Frag} {mg : Str → Option Value} {base : Heap} {aS a1 a2 aL aT : Addr} {f : Addr} {fd : FuncData} {C CD CY : Addr} {mc : Value}
abbrev s_want_station : Stmt := top 48
abbrev N_want_station : List Str := ["yard", "value"]
theorem sc_want_station : FnScope N_want_station ["yard", "value"] (defScope s_want_station) := ⟨rfl, rfl, rfl, by decide +kernel, rfl, by decide +kernel, by decide +kernel⟩
theorem ok_want_station (F : Fun K "want_station" "want_station" s_want_station f fd) (T : Txt K mg aS a1 a2) (lY : LenC P w K mg base 1 CY (spYL CY C)) (c_is_below : C8.Cal P w K mg base 3 "is_below" spIsBelow []) : FnOk P w K mg base CX0 4 f fd ["yard", "value"] (spWSt CY C) := by
  refine F.ok sc_want_station (fun vs H Q E h => ?_) (fun cdv A outer s0 H vs Q E hr h => ?_)
  · obtain ⟨y, s, ts, ps, rfl, _⟩ := h
    rfl
  obtain ⟨y, s, ts, ps, rfl, ya, yo, ls, q⟩ := h
  refine ⟨_, (pss_one (ps_if (pt_not (pt_val (C8.pe_c c_is_below hr (by decide) rfl (pa_cons (pv 1) (pa_cons (pe_callB (kLenO lY hr (by decide)) rfl T.b_len bt_len (pa_cons (pv 0) pa_nil)) pa_nil)))))
        (pss_one ps_never)
        pss_nil)), ?_⟩
  obtain ⟨dx, b1, b2, b3, b4, b5, b6, kv, kw, hy, _⟩ := ya.dc
  have m2 := yo.m2
  exact ⟨_, rfl, _, rfl, y, dx, _, rfl, hy, y, ts, ps, rfl, ya, ts.length, rfl, by omega, _, _, rfl, by omega, _, rfl, iteFd (by simp; omega) q⟩
abbrev s_are_sizes : Stmt := top 54
abbrev N_are_sizes : List Str := ["yard", "value", "size"]
theorem sc_are_sizes : FnScope N_are_sizes ["yard", "value"] (defScope s_are_sizes) := ⟨rfl, rfl, rfl, by decide +kernel, rfl, by decide +kernel, by decide +kernel⟩
theorem ok_are_sizes (F : Fun K "are_sizes" "are_sizes" s_are_sizes f fd) (T : Txt K mg aS a1 a2) (Y : YdF K CY) (c_is_integer : C8.Cal P w K mg base 1 "is_integer" spIsInt []) : FnOk P w K mg base CX0 2 f fd ["yard", "value"] (spSizes CY C) := by
  refine F.ok sc_are_sizes (fun vs H Q E h => ?_) (fun cdv A outer s0 H vs Q E hr h => ?_)
  · obtain ⟨y, Z, zs, ts, ps, rfl, _⟩ := h
    rfl
  obtain ⟨y, Z, zs, ts, ps, rfl, ya, hZ, lz, l1, z3, q⟩ := h
  obtain ⟨dx, a, b, c, d, e, f', hy, _, ⟨ws, hb, pws⟩, _⟩ := ya.ob
  refine ⟨_, (pss_cons (ps_if (PW.pt (pw_or (pt_not (pt_val (pe_callB (kIsi K rfl) rfl T.b_isinstance bt_isinstance (pa_cons (pv 1) (pa_cons (pTy rfl T.b_tuple bt_tuple) pa_nil))))) (pw_or1 (pt_cmpR op_ne (pe_callB (kLen K rfl) rfl T.b_len bt_len (pa_cons (pv 1) pa_nil)) (pe_callB (kLen K rfl) rfl T.b_len bt_len (pa_cons (kFld K rfl (pv 0)) pa_nil)) (nomark _)))))
        (pss_one (ps_ret pe_bl))
        pss_nil)
        (pss_one (ps_ret (pe_callB (kAll K rfl rfl) rfl T.b_all bt_all (pa_cons (pe_lc (own := [("size", 2)]) rfl sc_are_sizes.nd (kTup K rfl (pv 1)) (blkOk_by (N := N_are_sizes) (sc := defScope s_are_sizes) (by decide +kernel)) (fun _ _ _ _ _ => (pg_name (i := 2) sc_are_sizes.nd rfl (Or.inl rfl))) (fun _ _ _ _ _ => pts_nil) (fun _ _ _ _ _ => (pe_and (C8.pe_c c_is_integer hr (by decide) rfl (pa_cons (pv 2) pa_nil)) (pe_one (pe_chain op_le op_le pe_int (pv 2) (C8.pe_gc rfl T.g_MOST_SIZE)))))) pa_nil))))), ?_⟩
  refine ⟨_, rfl, _, _, _, _, _, rfl, .ty _, ty_tup hZ, ktt, _, rfl, iteF ⟨_, rfl, _, _, rfl, .inr (SqT.of hZ), _, rfl, y, CY, dx, _, _, rfl, hy, Y.cl, Y.nP, rfl, _, _, rfl, .inr (SqT.of hb), rfl, _, rfl, iteFd (by rw [dec_int, nV_len, lz, paired_len pws]; simp) ?_⟩⟩
  refine ⟨_, rfl, _, rfl, ⟨_, SqT.of hZ⟩, fun D hD => lc_it walk_tup (fun i H' => Same H H' ∧ H' D = some (.lst (List.replicate i (.bl true)))) ⟨same_new hD _, upd_same⟩ (fun i H' _ z => SqT.of (z.1 _ _ hZ)) ?_ ?_⟩
  · rintro i x H1 H2 hi ⟨sm, hd⟩ ⟨rfl, hx⟩
    obtain ⟨z, hz, rfl⟩ := List.getElem?_map_some hx
    have hz2 := z3 z (List.mem_of_getElem? hz)
    have hil := lt_len hz
    refine ⟨rfl, tyI ⟨_, rfl, _, rfl, _, rfl, iteT ⟨_, rfl, _, _, rfl, rfl, _, rfl, iteTd (by simp; omega) ⟨_, _, rfl, rfl, ?_⟩⟩⟩⟩
    dsimp only
    rw [show decide ((z : Int) ≤ 3) = true from decide_eq_true (by omega)]
    refine ⟨_, hd, ?_, same_at sm hD, ?_⟩
    · rw [List.length_replicate]
      exact Nat.lt_of_lt_of_le (show i < 100000 by omega) (by decide)
    · rw [upd_same, List.replicate_succ']
  · rintro H1 ⟨sm, hd⟩
    refine ⟨_, List.replicate _ true, rfl, SqL.of (by rw [hd, List.map_replicate]), ?_⟩
    rw [show ∀ m, (List.replicate m true).all id = true from fun m => by simp]
    exact q _ sm
abbrev s_want_sizes : Stmt := top 55
abbrev N_want_sizes : List Str := ["yard", "sizes"]
theorem sc_want_sizes : FnScope N_want_sizes ["yard", "sizes"] (defScope s_want_sizes) := ⟨rfl, rfl, rfl, by decide +kernel, rfl, by decide +kernel, by decide +kernel⟩
theorem ok_want_sizes (F : Fun K "want_sizes" "want_sizes" s_want_sizes f fd) (c_are_sizes : C8.Cal P w K mg base 2 "are_sizes" (spSizes CY C) []) : FnOk P w K mg base CX0 3 f fd ["yard", "sizes"] (spWSz CY C) := by
  refine F.ok sc_want_sizes (fun vs H Q E h => ?_) (fun cdv A outer s0 H vs Q E hr h => ?_)
  · obtain ⟨y, zv, z, ts, ps, rfl, _⟩ := h
    rfl
  obtain ⟨y, zv, z, ts, ps, rfl, ya, yo, sz1, szo, z3, q⟩ := h
  refine ⟨_, (pss_one (ps_if (PW.pt (pw_and (pt_cmp (pc_notN (pv 1))) (pw_and1 (pt_not (pt_val (C8.pe_c c_are_sizes hr (by decide) rfl (pa_cons (pv 0) (pa_cons (pv 1) pa_nil))))))))
        (pss_one ps_never)
        pss_nil)), ?_⟩
  cases z with
  | none =>
    obtain rfl : zv = .non := sz1
    exact ⟨_, rfl, _, rfl, iteFd (by decide) (iteF (q _ (Same.refl _)))⟩
  | some zs =>
    obtain ⟨Z, rfl, hZ⟩ := sz1
    have lp : (srt ps).length = ps.length := (srt_perm ps).length_eq
    have mp := yo.mp
    have szo' : zs.length = (srt ps).length := szo
    exact ⟨_, rfl, _, rfl, iteTd (by simp) ⟨_, rfl, _, rfl, y, Z, zs, ts, ps, rfl, ya, hZ, szo, by omega, z3, fun H1 s1 => ⟨_, rfl, iteF (q _ s1)⟩⟩⟩
abbrev s_Station___len__ : Stmt := inClass (top 40) 6
abbrev N_Station___len__ : List Str := ["self"]
theorem sc_Station___len__ : FnScope N_Station___len__ ["self"] (defScope s_Station___len__) := ⟨rfl, rfl, rfl, by decide +kernel, rfl, by decide +kernel, by decide +kernel⟩
theorem ok_Station_len (F : Fun K "__len__" "Station.__len__" s_Station___len__ f fd) (T : Txt K mg aS a1 a2) (S : StC K mg C) : FnOk P w K mg base CX0 1 f fd ["self"] (spStL C) := by
  refine F.ok sc_Station___len__ (fun vs H Q E h => ?_) (fun cdv A outer s H vs Q E hr h => ?_)
  · obtain ⟨v, t, rfl, _⟩ := h
    rfl
  obtain ⟨v, t, rfl, ⟨sA, sdx, sp, sps, rfl, hsa, hsp, psg⟩, q⟩ := h
  refine ⟨_, (pss_one (ps_ret (pe_callB (kLen K rfl) rfl T.b_len bt_len (pa_cons (kFld K rfl (pv 0)) pa_nil)))), ?_⟩
  refine ⟨_, rfl, sA, C, sdx, _, _, rfl, hsa, S.cl, S.nS, rfl, _, _, rfl, .inr (SqT.of hsp), ?_⟩
  rw [paired_len psg]
  exact q
end
end FY


set_option Elab.async false
set_option linter.all false
set_option maxRecDepth 100000
set_option maxHeartbeats 4000000
namespace FY
open PySem L2 FYR
def spIsState (CY C : Addr) : Sp := fun vs H Q _ => ∃ (y : Addr) (v : V) (σ : Sta) (ts : List Stn) (ps : List Pipe), vs = [.ref y, v] ∧ YdA CY C H y ts ps ∧ YdOk ts ps ∧ StaA H v σ ∧ StOk ts ps σ ∧ FlOk σ ∧ ∀ H', Same H H' → Q (.bl true) H'
def spWState (CY C : Addr) : Sp := fun vs H Q _ => ∃ (y : Addr) (v : V) (σ : Sta) (ts : List Stn) (ps : List Pipe), vs = [.ref y, v] ∧ YdA CY C H y ts ps ∧ YdOk ts ps ∧ StaA H v σ ∧ StOk ts ps σ ∧ FlOk σ ∧ ∀ H', Same H H' → Q .non H'
theorem walk_zipT {K : PySem.W.Frag} {a b : Addr} {xs ys : List V} {n : Nat} (hn : n = min xs.length ys.length) : Walk (RZ.ItzT K a b) n (fun H => SqT K H a xs ∧ SqT K H b ys) (YPair (fun i => xs[i]?) (fun i => ys[i]?)) := by
  subst hn
  refine ⟨fun i _ hi q => ?_, fun _ q => ⟨xs, ys, q.1, q.2, by omega⟩, fun i H v H' _ q y => ?_⟩
  · have h1 : i < xs.length := by omega
    have h2 : i < ys.length := by omega
    exact ⟨xs, ys, xs[i], ys[i], q.1, q.2, by simp [h1], by simp [h2]⟩
  · obtain ⟨T, x, z, h1, h2, h3, h4, h5⟩ := y
    exact ⟨T, x, z, h1, h2, h3, h4 xs q.1, h5 ys q.2⟩
theorem eqv_i3 (a b c : Nat) : PyData.eqv (.list [.int (a : Nat), .int (b : Nat), .int (c : Nat)]) (.list [.int (a : Nat), .int (b : Nat), .int (c : Nat)]) = true := by
  simp [PyData.eqv, PyData.eqvAll]
theorem catA_of {K : PySem.W.Frag} {a b : Addr} {xs ys : List V} {H : Hp} {Q : VK} (ha : H a = some (.tup xs)) (hb : H b = some (.tup ys)) (hl : xs.length + ys.length ≤ 100000) (q : ∀ H' p, Same H H' → H' p = some (.tup (xs ++ ys)) → Q (.ref p) H') : rCatA K (.ref a) (.ref b) H Q :=
  ⟨a, b, xs, ys, rfl, rfl, SqT.of ha, SqT.of hb, Nat.le_trans hl (by decide), fun z => q _ _ (Same.refl _) (by rw [z]; exact hb), fun _ z => q _ _ (Same.refl _) (by rw [z, List.append_nil]; exact ha), fun _ _ p hp => q _ _ (same_new hp _) upd_same⟩
section
variable {P : Program} {w : World} {K : PySem.W.Frag} {mg : Str → Option Value} {base : Heap} {aS a1 a2 aL aT : Addr} {f : Addr} {fd : FuncData} {C CD CY : Addr} {mc : Value}
abbrev s_is_state : Stmt := top 56
abbrev N_is_state : List Str := ["yard", "value", "standings", "contents", "rest", "flows", "at", "standing", "station", "text"]
theorem sc_is_state : FnScope N_is_state ["yard", "value"] (defScope s_is_state) := ⟨rfl, rfl, rfl, by decide +kernel, rfl, by decide +kernel, by decide +kernel⟩
theorem ok_is_state (F : Fun K "is_state" "is_state" s_is_state f fd) (T : Txt K mg aS a1 a2) (Y : YdF K CY) (lY : LenC P w K mg base 1 CY (spYL CY C)) (lS : LenC P w K mg base 1 C (spStL C)) (c_is_below : C8.Cal P w K mg base 3 "is_below" spIsBelow []) (c_is_text : C8.Cal P w K mg base 1 "is_text" spIsText []) : FnOk P w K mg base CX0 4 f fd ["yard", "value"] (spIsState CY C) := by
  refine F.ok sc_is_state (fun vs H Q E h => ?_) (fun cdv A outer s0 H vs Q E hr h => ?_)
  · obtain ⟨y, v, σ, ts, ps, rfl, _⟩ := h
    rfl
  obtain ⟨y, v, σ, ts, ps, rfl, ya, yo, sa, so, fo, q⟩ := h
  obtain ⟨va, vp, vq, vr, rfl, h1, h2, h3, h4⟩ := sa
  obtain ⟨dx, a, b, c, d, e, f', hy, ⟨us, ha, pus⟩, ⟨ws, hb, pws⟩, ⟨es, hc, pes⟩, _⟩ := ya.ob
  have lp : (srt ps).length = ps.length := (srt_perm ps).length_eq
  have mp := yo.mp
  have m2 := yo.m2
  have x3 := yo.ex
  refine ⟨_, (pss_cons (ps_if (PW.pt (pw_or (pt_not (pt_val (pe_callB (kIsi K rfl) rfl T.b_isinstance bt_isinstance (pa_cons (pv 1) (pa_cons (pTy rfl T.b_tuple bt_tuple) pa_nil))))) (pw_or (pt_cmpR op_ne (pe_callB (kLen K rfl) rfl T.b_len bt_len (pa_cons (pv 1) pa_nil)) pe_int (nomark _)) (pw_or1 (pt_not (pt_val (pe_callB (kAll K rfl rfl) rfl T.b_all bt_all (pa_cons (pe_lc (own := [("at", 6)]) rfl sc_is_state.nd (kTup K rfl (pe_tup (pa_cons pe_int (pa_cons pe_int (pa_cons pe_int pa_nil))))) (blkOk_by (N := N_is_state) (sc := defScope s_is_state) (by decide +kernel)) (fun _ _ _ _ _ => (pg_name (i := 6) sc_is_state.nd rfl (Or.inl rfl))) (fun _ _ _ _ _ => pts_nil) (fun _ _ _ _ _ => (pe_callB (kIsi K rfl) rfl T.b_isinstance bt_isinstance (pa_cons (pe_ix (kIxT K rfl) (pv 1) (pv 6) (fun _ _ => rfl)) (pa_cons (pTy rfl T.b_tuple bt_tuple) pa_nil))))) pa_nil))))))))
        (pss_one (ps_ret pe_bl))
        pss_nil)
        (pss_cons (ps_asg (pv 1) (kTupG (n := 4) K rfl rfl (pgs_cons (pg_name (i := 2) sc_is_state.nd rfl (Or.inl rfl)) (pgs_cons (pg_name (i := 3) sc_is_state.nd rfl (Or.inl rfl)) (pgs_cons (pg_name (i := 4) sc_is_state.nd rfl (Or.inl rfl)) (pgs_cons (pg_name (i := 5) sc_is_state.nd rfl (Or.inl rfl)) pgs_nil))))))
        (pss_cons (ps_if (pt_cmpR (kNeD K rfl hr.units) (pe_lst (pa_cons (pe_callB (kLen K rfl) rfl T.b_len bt_len (pa_cons (pv 2) pa_nil)) (pa_cons (pe_callB (kLen K rfl) rfl T.b_len bt_len (pa_cons (pv 3) pa_nil)) (pa_cons (pe_callB (kLen K rfl) rfl T.b_len bt_len (pa_cons (pv 5) pa_nil)) pa_nil)))) (pe_lst (pa_cons (pe_callB (kLenO lY hr (by decide)) rfl T.b_len bt_len (pa_cons (pv 0) pa_nil)) (pa_cons (pe_callB (kLen K rfl) rfl T.b_len bt_len (pa_cons (kFld K rfl (pv 0)) pa_nil)) (pa_cons (pe_callB (kLen K rfl) rfl T.b_len bt_len (pa_cons (kFld K rfl (pv 0)) pa_nil)) pa_nil)))) (nomark _))
        (pss_one (ps_ret pe_bl))
        pss_nil)
        (pss_cons (ps_if (pt_not (pt_val (pe_callB (kAll K rfl rfl) rfl T.b_all bt_all (pa_cons (pe_lc (own := [("standing", 7), ("station", 8)]) rfl sc_is_state.nd (kZipA K rfl rfl T.b_zip (pa_cons (pv 2) (pa_cons (kFld K rfl (pv 0)) pa_nil))) (blkOk_by (N := N_is_state) (sc := defScope s_is_state) (by decide +kernel)) (fun _ _ _ _ _ => (kTupG (n := 2) K rfl rfl (pgs_cons (pg_name (i := 7) sc_is_state.nd rfl (Or.inl rfl)) (pgs_cons (pg_name (i := 8) sc_is_state.nd rfl (Or.inl rfl)) pgs_nil)))) (fun _ _ _ _ _ => pts_nil) (fun _ _ _ _ _ => (C8.pe_c c_is_below hr (by decide) rfl (pa_cons (pv 7) (pa_cons (pe_callB (kLenO lS hr (by decide)) rfl T.b_len bt_len (pa_cons (pv 8) pa_nil)) pa_nil))))) pa_nil))))
        (pss_one (ps_ret pe_bl))
        pss_nil)
        (pss_one (ps_ret (pe_callB (kAll K rfl rfl) rfl T.b_all bt_all (pa_cons (pe_lc (own := [("text", 9)]) rfl sc_is_state.nd (kTup K rfl (pe_op (kCatA K rfl) (pe_op (kCatA K rfl) (pv 3) (pe_tup (pa_cons (pv 4) pa_nil))) (pv 5))) (blkOk_by (N := N_is_state) (sc := defScope s_is_state) (by decide +kernel)) (fun _ _ _ _ _ => (pg_name (i := 9) sc_is_state.nd rfl (Or.inl rfl))) (fun _ _ _ _ _ => pts_nil) (fun _ _ _ _ _ => (C8.pe_c c_is_text hr (by decide) rfl (pa_cons (pv 9) pa_nil)))) pa_nil)))))))), ?_⟩
  refine ⟨_, rfl, _, _, _, _, _, rfl, .ty _, ty_tup h1, ktt, _, rfl, iteF ⟨_, rfl, _, _, rfl, .inr (SqT.of h1), rfl, _, rfl, iteFd (by rw [dec_int]; rfl) ⟨sz rfl, fun pT hpT => ?_⟩⟩⟩
  have k0 := same_new hpT (.tup [.int 0, .int 1, .int 3])
  refine ⟨_, rfl, ⟨_, SqT.of upd_same⟩, fun D hD => lc_it walk_tup (fun i H' => Same (upd H pT (.tup [.int 0, .int 1, .int 3])) H' ∧ H' D = some (.lst (List.replicate i (.bl true)))) ⟨same_new hD _, upd_same⟩ (fun i H' _ z => SqT.of (z.1 _ _ upd_same)) ?_ ?_⟩
  · rintro i x H1 H2 hi ⟨sm, hd⟩ ⟨rfl, hx⟩
    have s1 := k0.trans' sm
    have key : ∃ (j : Nat) (r : Addr) (zs : List V), x = .int (j : Nat) ∧ [V.ref vp, V.ref vq, V.str (tx σ.rs), V.ref vr][j]? = some (.ref r) ∧ H2 r = some (.tup zs) := by
      match i, hx with
      | 0, hx => exact ⟨0, vp, _, (Option.some.inj hx).symm, rfl, s1 _ _ h2⟩
      | 1, hx => exact ⟨1, vq, _, (Option.some.inj hx).symm, rfl, s1 _ _ h3⟩
      | 2, hx => exact ⟨3, vr, _, (Option.some.inj hx).symm, rfl, s1 _ _ h4⟩
    obtain ⟨j, r, zs, rfl, hj, hzs⟩ := key
    refine ⟨rfl, tyI ⟨_, rfl, _, rfl, _, _, _, _, rfl, rfl, SqT.of (s1 _ _ h1), atI_nat hj, _, _, _, _, _, rfl, .ty _, ty_tup hzs, ktt, ?_⟩⟩
    refine ⟨_, hd, ?_, same_at sm hD, ?_⟩
    · rw [List.length_replicate]
      exact Nat.lt_of_lt_of_le hi (by decide)
    · rw [upd_same, List.replicate_succ']
  rintro H1 ⟨sm, hd⟩
  have s1 := k0.trans' sm
  refine ⟨_, List.replicate _ true, rfl, SqL.of (by rw [hd, List.map_replicate]), _, rfl, ?_⟩
  rw [show ∀ m, (List.replicate m true).all id = true from fun m => by simp]
  refine iteF ?_
  refine ⟨_, rfl, _, _, rfl, SqT.of (s1 _ _ h1), rfl, _, _, rfl, _, _, rfl, _, _, rfl, _, _, rfl, rfl, ?_⟩
  refine ⟨_, rfl, _, _, rfl, .inr (SqT.of (s1 _ _ h2)), _, rfl, _, _, rfl, .inr (SqT.of (s1 _ _ h3)), _, rfl, _, _, rfl, .inr (SqT.of (s1 _ _ h4)), sz rfl, fun L1 hL1 => ?_⟩
  have k2 := same_new hL1 (.lst [.int ((nV σ.sd).length : Nat), .int ((tV σ.ct).length : Nat), .int ((tV σ.fl).length : Nat)])
  have s2 := s1.trans' k2
  have ya2 := ya.nl (NL.of s2)
  refine ⟨_, rfl, y, dx, _, rfl, s2 _ _ hy, y, ts, ps, rfl, ya2, ts.length, rfl, by omega, _, rfl, y, CY, dx, _, _, rfl, s2 _ _ hy, Y.cl, Y.nP, rfl, _, _, rfl, .inr (SqT.of (s2 _ _ hb)), _, rfl, y, CY, dx, _, _, rfl, s2 _ _ hy, Y.cl, Y.nX, rfl, _, _, rfl, .inr (SqT.of (s2 _ _ hc)), sz rfl, fun L2 hL2 => ?_⟩
  have k3 := same_new hL2 (.lst [.int (ts.length : Nat), .int (ws.length : Nat), .int (es.length : Nat)])
  have s3 := s2.trans' k3
  have lw : ws.length = (tV σ.ct).length := by rw [tV_len, so.lc]; exact paired_len2 pws
  have le : es.length = (tV σ.fl).length := by rw [tV_len, so.lf]; exact paired_len2 pes
  have lu : ts.length = (nV σ.sd).length := by rw [nV_len, so.ls]
  refine ⟨.list [.int ((nV σ.sd).length : Nat), .int ((tV σ.ct).length : Nat), .int ((tV σ.fl).length : Nat)], .list [.int (ts.length : Nat), .int (ws.length : Nat), .int (es.length : Nat)], .lst (SqL.of (k3 _ _ upd_same)) (.cons (.int _) (.cons (.int _) (.cons (.int _) .nil))), .lst (SqL.of upd_same) (.cons (.int _) (.cons (.int _) (.cons (.int _) .nil))), by rfl, by rfl, _, rfl, iteFd (by rw [lw, le, lu, eqv_i3]; rfl) ?_⟩
  refine ⟨_, rfl, _, rfl, y, CY, dx, _, _, rfl, s3 _ _ hy, Y.cl, Y.nS, rfl, _, _, _, _, rfl, .inr ⟨SqT.of (s3 _ _ h2), SqT.of (s3 _ _ ha), fun D2 hD2 => lc_it (walk_zipT (n := ts.length) (by rw [nV_len, so.ls, paired_len2 pus, Nat.min_self])) (fun i H' => Same H H' ∧ H' D2 = some (.lst (List.replicate i (.bl true)))) ⟨s3.trans' (same_new hD2 _), upd_same⟩ (fun i H' _ z => ⟨SqT.of (z.1 _ _ h2), SqT.of (z.1 _ _ ha)⟩) ?_ ?_⟩⟩
  · rintro i x H4 H5 hi ⟨sm, hd⟩ ⟨T0, i1, i2, rfl, hT0, rfl, hi1, hi2'⟩
    obtain ⟨g, hg, rfl⟩ := List.getElem?_map_some hi1
    have et : ts[i]? = some ts[i] := List.getElem?_eq_getElem hi
    obtain ⟨u, hu, stA⟩ := paired_at pus et
    obtain rfl : u = i2 := Option.some.inj (hu.symm.trans hi2')
    have lg := so.st i _ g et hg
    have k5 := same_new hT0 (.tup [.int (g : Nat), u])
    have s5 := sm.trans' k5
    have tm := (yo.ok _ (List.getElem_mem hi)).m2
    have hD2H : H D2 = none := by cases z : H D2 with | none => rfl | some o => exact absurd (s3 _ _ z) (by rw [hD2]; exact nofun)
    obtain ⟨sA, sdx, sp, sps, rfl, hsa, hsp, psg⟩ := stA
    refine ⟨_, _, rfl, SqT.of upd_same, rfl, _, _, rfl, _, _, rfl, rfl, rfl, tyI ⟨_, rfl, _, rfl, sA, sdx, _, rfl, s5 _ _ hsa, .ref sA, ts[i], rfl, ⟨sA, sdx, sp, sps, rfl, s5 _ _ hsa, s5 _ _ hsp, sgA_all (Tups.of s5) psg⟩, ts[i].stgs.length, rfl, by omega, _, _, rfl, by omega, ?_⟩⟩
    rw [decide_eq_true (show (g : Int) < (ts[i].stgs.length : Nat) by omega)]
    refine ⟨_, k5 _ _ hd, ?_, same_at s5 hD2H, ?_⟩
    · rw [List.length_replicate]
      exact Nat.lt_of_lt_of_le (show i < 100000 by omega) (by decide)
    · rw [upd_same, List.replicate_succ']
  rintro H4 ⟨s4, hd4⟩
  refine ⟨_, List.replicate _ true, rfl, SqL.of (by rw [hd4, List.map_replicate]), _, rfl, ?_⟩
  rw [show ∀ m, (List.replicate m true).all id = true from fun m => by simp]
  refine iteF ?_
  have lc : σ.ct.length = (srt ps).length := so.lc
  have lf : σ.fl.length = (exitsOf ts ps).length := so.lf
  refine ⟨_, rfl, _, rfl, sz rfl, fun p5 hp5 => ?_⟩
  have k5 := same_new hp5 (.tup [.str (tx σ.rs)])
  have s5 := s4.trans' k5
  refine catA_of (s5 _ _ h3) upd_same (by rw [tV_len]; simp; omega) fun H6 p6 s6 hp6 => ?_
  have s6' := s5.trans' s6
  refine ⟨_, rfl, ?_⟩
  refine catA_of hp6 (s6' _ _ h4) (by rw [List.length_append, tV_len, tV_len]; simp; omega) fun H7 p7 s7 hp7 => ?_
  have s7' := s6'.trans' s7
  have eL : tV σ.ct ++ [V.str (tx σ.rs)] ++ tV σ.fl = tV (σ.ct ++ [σ.rs] ++ σ.fl) := by unfold tV; simp
  rw [eL] at hp7
  have lL : (σ.ct ++ [σ.rs] ++ σ.fl).length ≤ 1000 := by simp; omega
  have bL : ∀ b ∈ σ.ct ++ [σ.rs] ++ σ.fl, b.length ≤ 100000 := by
    intro b hb
    simp only [List.mem_append, List.mem_singleton] at hb
    rcases hb with (hb | hb) | hb
    · exact so.cb b hb
    · rw [hb]; exact so.rb
    · exact fo b hb
  generalize σ.ct ++ [σ.rs] ++ σ.fl = bs at *
  refine ⟨_, rfl, ⟨_, SqT.of hp7⟩, fun D8 hD8 => lc_it walk_tup (fun i H' => Same H7 H' ∧ H' D8 = some (.lst (List.replicate i (.bl true)))) ⟨same_new hD8 _, upd_same⟩ (fun i H' _ z => SqT.of (z.1 _ _ hp7)) ?_ ?_⟩
  · rintro i x H8 H9 hi ⟨sm, hd⟩ ⟨rfl, hx⟩
    obtain ⟨b, hb, rfl⟩ := List.getElem?_map_some hx
    have hil := lt_len hb
    refine ⟨rfl, tyI ⟨_, rfl, b, rfl, bL b (List.mem_of_getElem? hb), fun H10 s10 => ?_⟩⟩
    refine ⟨_, s10 _ _ hd, ?_, same_at (sm.trans' s10) hD8, ?_⟩
    · rw [List.length_replicate]
      exact Nat.lt_of_lt_of_le (show i < 100000 by omega) (by decide)
    · rw [upd_same, List.replicate_succ']
  rintro H8 ⟨s8, hd8⟩
  refine ⟨_, List.replicate _ true, rfl, SqL.of (by rw [hd8, List.map_replicate]), ?_⟩
  rw [show ∀ m, (List.replicate m true).all id = true from fun m => by simp]
  exact q _ (s7'.trans' s8)
abbrev s_want_state : Stmt := top 57
abbrev N_want_state : List Str := ["yard", "state"]
theorem sc_want_state : FnScope N_want_state ["yard", "state"] (defScope s_want_state) := ⟨rfl, rfl, rfl, by decide +kernel, rfl, by decide +kernel, by decide +kernel⟩
theorem ok_want_state (F : Fun K "want_state" "want_state" s_want_state f fd) (c_is_state : C8.Cal P w K mg base 4 "is_state" (spIsState CY C) []) : FnOk P w K mg base CX0 5 f fd ["yard", "state"] (spWState CY C) := by
  refine F.ok sc_want_state (fun vs H Q E h => ?_) (fun cdv A outer s0 H vs Q E hr h => ?_)
  · obtain ⟨y, v, σ, ts, ps, rfl, _⟩ := h
    rfl
  obtain ⟨y, v, σ, ts, ps, rfl, ya, yo, sa, so, fo, q⟩ := h
  refine ⟨_, (pss_one (ps_if (pt_not (pt_val (C8.pe_c c_is_state hr (by decide) rfl (pa_cons (pv 0) (pa_cons (pv 1) pa_nil)))))
        (pss_one ps_never)
        pss_nil)), ?_⟩
  exact ⟨_, rfl, _, rfl, y, v, σ, ts, ps, rfl, ya, yo, sa, so, fo, fun H1 s1 => ⟨_, rfl, iteF (q _ s1)⟩⟩
end
end FY


set_option Elab.async false
set_option linter.all false
set_option maxRecDepth 100000
set_option maxHeartbeats 4000000
namespace FY
open PySem L2 FYR
theorem none_of {H H' : Hp} {p : Addr} (s : Same H H') (h : H' p = none) : H p = none := by
  cases z : H p with
  | none => rfl
  | some o => rw [s _ _ z] at h; cases h
/-- the state behind the beat of s -/
def aftR (ts : List Stn) (ps : List Pipe) (σ : Sta) (s : Nat) : Sta := match rowS ts (srt ps) σ s with
  | some r => aftS ts (srt ps) (exitsOf ts ps) σ s r
  | none => σ
inductive RunS (ts : List Stn) (ps : List Pipe) (z : Option (List Nat)) : Sta → List Nat → Sta → Prop
  | nil {σ : Sta} : StOk ts ps σ → FlOk σ → RunS ts ps z σ [] σ
  | cons {σ σ' : Sta} {s : Nat} {r : List Nat} : StOk ts ps σ → FlOk σ → s < ts.length → canS ts (srt ps) σ s z = true → RunS ts ps z (aftR ts ps σ s) r σ' → RunS ts ps z σ (s :: r) σ'
inductive FinS (ts : List Stn) (ps : List Pipe) (z : Option (List Nat)) : Sta → List Nat → Sta → Prop
  | stop {σ : Sta} : StOk ts ps σ → FlOk σ → ableS ts (srt ps) σ z = [] → FinS ts ps z σ [] σ
  | beat {σ σ' : Sta} {s : Nat} {r ss : List Nat} : StOk ts ps σ → FlOk σ → ableS ts (srt ps) σ z = s :: ss → FinS ts ps z (aftR ts ps σ s) r σ' → FinS ts ps z σ (s :: r) σ'
theorem RunS.ok {ts : List Stn} {ps : List Pipe} {z : Option (List Nat)} {σ σ' : Sta} {r : List Nat} (h : RunS ts ps z σ r σ') : StOk ts ps σ ∧ FlOk σ := by cases h <;> exact ⟨‹_›, ‹_›⟩
theorem RunS.okEnd {ts : List Stn} {ps : List Pipe} {z : Option (List Nat)} {σ σ' : Sta} {r : List Nat} (h : RunS ts ps z σ r σ') : StOk ts ps σ' ∧ FlOk σ' := by
  induction h with
  | nil a b => exact ⟨a, b⟩
  | cons _ _ _ _ _ ih => exact ih
theorem FinS.ok {ts : List Stn} {ps : List Pipe} {z : Option (List Nat)} {σ σ' : Sta} {r : List Nat} (h : FinS ts ps z σ r σ') : StOk ts ps σ ∧ FlOk σ := by cases h <;> exact ⟨‹_›, ‹_›⟩
theorem able_can {ts : List Stn} {qs : List Pipe} {σ : Sta} {z : Option (List Nat)} {s : Nat} {ss : List Nat} (h : ableS ts qs σ z = s :: ss) : s < ts.length ∧ canS ts qs σ s z = true := by
  have m : s ∈ ableS ts qs σ z := by rw [h]; exact List.mem_cons_self ..
  obtain ⟨a, b⟩ := List.mem_filter.mp m
  exact ⟨List.mem_range.mp a, b⟩
theorem can_row {ts : List Stn} {qs : List Pipe} {σ : Sta} {z : Option (List Nat)} {s : Nat} (h : canS ts qs σ s z = true) : ∃ r, rowS ts qs σ s = some r := by
  unfold canS at h
  cases e : rowS ts qs σ s with
  | none => rw [e] at h; cases h
  | some r => exact ⟨r, rfl⟩
/-- what is asked of the yard -/
structure YK (CY C : Addr) (H : Hp) (y : Addr) (ts : List Stn) (ps : List Pipe) : Prop where
  ya : YdA CY C H y ts ps
  yo : YdOk ts ps
  al : AllIn ts (srt ps)
theorem YK.keep {CY C : Addr} {H H' : Hp} {y : Addr} {ts : List Stn} {ps : List Pipe} (h : YK CY C H y ts ps) (k : NL H H') : YK CY C H' y ts ps := ⟨h.ya.nl k, h.yo, h.al⟩
/-- .. of the sizes -/
structure SK (H : Hp) (zv : V) (ps : List Pipe) (z : Option (List Nat)) : Prop where
  a : SzA H zv z
  o : SzOk ps z
  i : SzIn z
theorem SK.keep {H H' : Hp} {zv : V} {ps : List Pipe} {z : Option (List Nat)} (h : SK H zv ps z) (k : Tups H H') : SK H' zv ps z := ⟨h.a.keep k, h.o, h.i⟩
theorem SK.none {H : Hp} {ps : List Pipe} : SK H .non ps none := ⟨rfl, trivial, trivial⟩
def spBeginOf (CY C : Addr) : Sp := fun vs H Q _ => ∃ (y : Addr) (x : List Bool) (ts : List Stn) (ps : List Pipe), vs = [.ref y, .str (tx x)] ∧ YK CY C H y ts ps ∧ x.length ≤ 1000 ∧ ∀ H' v, Same H H' → StaA H' v (begS ts ps x) → Q v H'
def spCan (CY C : Addr) : Sp := fun vs H Q _ => ∃ (y : Addr) (v zv : V) (σ : Sta) (z : Option (List Nat)) (ts : List Stn) (ps : List Pipe), vs = [.ref y, v, zv] ∧ YK CY C H y ts ps ∧ StaA H v σ ∧ StOk ts ps σ ∧ FlOk σ ∧ SK H zv ps z ∧ ∀ H' p, Same H H' → H p = none → H' p = some (.lst (nV (ableS ts (srt ps) σ z))) → Q (.ref p) H'
def spDone (CY C : Addr) : Sp := fun vs H Q _ => ∃ (y : Addr) (v zv : V) (σ : Sta) (s : Nat) (z : Option (List Nat)) (ts : List Stn) (ps : List Pipe), vs = [.ref y, v, .int (s : Nat), zv] ∧ YK CY C H y ts ps ∧ StaA H v σ ∧ StOk ts ps σ ∧ FlOk σ ∧ SK H zv ps z ∧ s < ts.length ∧ canS ts (srt ps) σ s z = true ∧ ∀ H' u, Same H H' → StaA H' u (aftR ts ps σ s) → Q u H'
def spFault (CY C : Addr) : Sp := fun vs H Q _ => ∃ (y L : Addr) (zv : V) (x : List Bool) (run : List Nat) (σ' : Sta) (z : Option (List Nat)) (ts : List Stn) (ps : List Pipe), vs = [.ref y, .str (tx x), .ref L, zv] ∧ YK CY C H y ts ps ∧ H L = some (.lst (nV run)) ∧ SK H zv ps z ∧ RunS ts ps z (begS ts ps x) run σ' ∧ ∀ H' p v, Same H H' → H' p = some (.tup [v, .non]) → StaA H' v σ' → Q (.ref p) H'
def spBehind (CY C : Addr) : Sp := fun vs H Q _ => ∃ (y L : Addr) (zv : V) (x : List Bool) (run : List Nat) (σ' : Sta) (z : Option (List Nat)) (ts : List Stn) (ps : List Pipe), vs = [.ref y, .str (tx x), .ref L, zv] ∧ YK CY C H y ts ps ∧ x.length ≤ 1000 ∧ H L = some (.lst (nV run)) ∧ SK H zv ps z ∧ RunS ts ps z (begS ts ps x) run σ' ∧ ∀ H' v, Same H H' → StaA H' v σ' → Q v H'
def spFull (CY C : Addr) : Sp := fun vs H Q _ => ∃ (y L : Addr) (zv : V) (x : List Bool) (run : List Nat) (σ' : Sta) (z : Option (List Nat)) (ts : List Stn) (ps : List Pipe), vs = [.ref y, .str (tx x), .ref L, zv] ∧ YK CY C H y ts ps ∧ x.length ≤ 1000 ∧ H L = some (.lst (nV run)) ∧ SK H zv ps z ∧ RunS ts ps z (begS ts ps x) run σ' ∧ ∀ H', Same H H' → Q (.bl (decide (ableS ts (srt ps) σ' z = []))) H'
def spFin (CY C : Addr) : Sp := fun vs H Q _ => ∃ (y : Addr) (v zv : V) (σ σ' : Sta) (m : Nat) (run : List Nat) (z : Option (List Nat)) (ts : List Stn) (ps : List Pipe), vs = [.ref y, v, zv, .int (m : Nat)] ∧ YK CY C H y ts ps ∧ StaA H v σ ∧ SK H zv ps z ∧ FinS ts ps z σ run σ' ∧ run.length ≤ m ∧ m ≤ 100000 ∧ ∀ H' p u L, Same H H' → H L = none → H' p = some (.tup [u, .ref L]) → StaA H' u σ' → H' L = some (.lst (nV run)) → Q (.ref p) H'
def spRunF (CY C : Addr) : Sp := fun vs H Q _ => ∃ (y : Addr) (zv : V) (x : List Bool) (σ' : Sta) (run : List Nat) (z : Option (List Nat)) (ts : List Stn) (ps : List Pipe), vs = [.ref y, .str (tx x), zv] ∧ YK CY C H y ts ps ∧ x.length ≤ 1000 ∧ SK H zv ps z ∧ FinS ts ps z (begS ts ps x) run σ' ∧ run.length ≤ 20000 ∧ ∀ H' L, Same H H' → H L = none → H' L = some (.lst (nV run)) → Q (.ref L) H'
def spEnd (CY C : Addr) : Sp := fun vs H Q _ => ∃ (y : Addr) (zv : V) (x : List Bool) (σ' : Sta) (run : List Nat) (z : Option (List Nat)) (ts : List Stn) (ps : List Pipe), vs = [.ref y, .str (tx x), zv] ∧ YK CY C H y ts ps ∧ x.length ≤ 1000 ∧ SK H zv ps z ∧ FinS ts ps z (begS ts ps x) run σ' ∧ run.length ≤ 20000 ∧ ∀ H' u, Same H H' → StaA H' u σ' → Q u H'
def spFlows (CY C : Addr) : Sp := fun vs H Q _ => ∃ (y : Addr) (x : List Bool) (σ' : Sta) (run : List Nat) (ts : List Stn) (ps : List Pipe), vs = [.ref y, .str (tx x)] ∧ YK CY C H y ts ps ∧ x.length ≤ 1000 ∧ FinS ts ps none (begS ts ps x) run σ' ∧ run.length ≤ 20000 ∧ ∀ H' L, Same H H' → H L = none → H' L = some (.lst (tV σ'.fl)) → Q (.ref L) H'
theorem dpints {K : PySem.W.Frag} {H : Hp} : ∀ ns : List Nat, DpAll K H (nV ns) (ns.map fun (n : Nat) => PyData.int (n : Nat))
  | [] => .nil
  | n :: r => .cons (.int _) (dpints r)
theorem shp_ints {ns : List Nat} (h : ∀ n ∈ ns, n ≤ 100) (hl : ns.length ≤ 100000) : SeqAt.shaped (.list (ns.map fun (n : Nat) => PyData.int (n : Nat))) = true :=
  (nice_lst (n := 0) (w := 7) (m := 100000) (by intro d hd; obtain ⟨n, hn, rfl⟩ := List.mem_map.mp hd; exact nice_int (h n hn)) (by rw [List.length_map]; exact hl)).shp (by decide)
theorem able_small {ts : List Stn} {qs : List Pipe} {σ : Sta} {z : Option (List Nat)} (h : ts.length ≤ 12) : (∀ n ∈ ableS ts qs σ z, n ≤ 100) ∧ (ableS ts qs σ z).length ≤ 100 := by
  refine ⟨fun n hn => ?_, ?_⟩
  · have := List.mem_range.mp (List.mem_filter.mp hn).1
    omega
  · have : (ableS ts qs σ z).length ≤ (List.range ts.length).length := List.length_filter_le _ _
    rw [List.length_range] at this
    omega
theorem eqv_nil (ns : List Nat) : PyData.eqv (.list (ns.map fun (n : Nat) => PyData.int (n : Nat))) (.list []) = decide (ns = []) := by
  cases ns <;> rfl
section
variable {P : Program} {w : World} {K : PySem.W.Frag} {mg : Str → Option Value} {base : Heap} {aS a1 a2 aL aT : Addr} {f : Addr} {fd : FuncData} {C CD CY : Addr} {mc : Value}
abbrev s_begin_of : Stmt := top 65
abbrev N_begin_of : List Str := ["yard", "stream"]
theorem sc_begin_of : FnScope N_begin_of ["yard", "stream"] (defScope s_begin_of) := ⟨rfl, rfl, rfl, by decide +kernel, rfl, by decide +kernel, by decide +kernel⟩
theorem ok_begin_of (F : Fun K "begin_of" "begin_of" s_begin_of f fd) (c_want_stream : C8.Cal P w K mg base 3 "want_stream" spWantStream []) (c_begun : C8.Cal P w K mg base 1 "begun" (spBegun CY C) []) : FnOk P w K mg base CX0 4 f fd ["yard", "stream"] (spBeginOf CY C) := by
  refine F.ok sc_begin_of (fun vs H Q E h => ?_) (fun cdv A outer s0 H vs Q E hr h => ?_)
  · obtain ⟨y, x, ts, ps, rfl, _⟩ := h
    rfl
  obtain ⟨y, x, ts, ps, rfl, yk, hx, q⟩ := h
  refine ⟨_, (pss_cons (ps_expr (C8.pe_c c_want_stream hr (by decide) rfl (pa_cons (pv 1) pa_nil)))
        (pss_one (ps_ret (C8.pe_c c_begun hr (by decide) rfl (pa_cons (pv 0) (pa_cons (pv 1) pa_nil)))))), ?_⟩
  exact ⟨_, rfl, x, rfl, hx, fun H1 s1 => ⟨_, rfl, _, rfl, y, x, ts, ps, rfl, yk.ya.nl (NL.of s1), yk.yo.ex, fun H2 v s2 sv => q _ _ (s1.trans' s2) sv⟩⟩
abbrev s_can_be_done : Stmt := top 66
abbrev N_can_be_done : List Str := ["yard", "state", "sizes"]
theorem sc_can_be_done : FnScope N_can_be_done ["yard", "state", "sizes"] (defScope s_can_be_done) := ⟨rfl, rfl, rfl, by decide +kernel, rfl, by decide +kernel, by decide +kernel⟩
theorem ok_can_be_done {dV : List V} (F : FunD K "can_be_done" "can_be_done" (defArgs s_can_be_done) (defBody s_can_be_done) (defScope s_can_be_done) dV [] f fd) (c_want_state : C8.Cal P w K mg base 5 "want_state" (spWState CY C) []) (c_want_sizes : C8.Cal P w K mg base 3 "want_sizes" (spWSz CY C) []) (c_possible : C8.Cal P w K mg base 4 "possible" (spPossible CY C) []) : FnOk P w K mg base CX0 6 f fd ["yard", "state", "sizes"] (spCan CY C) := by
  refine okD0 F sc_can_be_done (fun vs H Q E h => ?_) (fun cdv A outer s0 H vs Q E hr h => ?_)
  · obtain ⟨y, v, zv, σ, z, ts, ps, rfl, _⟩ := h
    rfl
  obtain ⟨y, v, zv, σ, z, ts, ps, rfl, yk, sa, so, fo, sk, q⟩ := h
  refine ⟨_, (pss_cons (ps_expr (C8.pe_c c_want_state hr (by decide) rfl (pa_cons (pv 0) (pa_cons (pv 1) pa_nil))))
        (pss_cons (ps_expr (C8.pe_c c_want_sizes hr (by decide) rfl (pa_cons (pv 0) (pa_cons (pv 2) pa_nil))))
        (pss_one (ps_ret (C8.pe_c c_possible hr (by decide) rfl (pa_cons (pv 0) (pa_cons (pv 1) (pa_cons (pv 2) pa_nil)))))))), ?_⟩
  refine ⟨_, rfl, _, rfl, y, v, σ, ts, ps, rfl, yk.ya, yk.yo, sa, so, fo, fun H1 s1 => ⟨_, rfl, _, rfl, y, zv, z, ts, ps, rfl, yk.ya.nl (NL.of s1), yk.yo, sk.a.keep (Tups.of s1), sk.o, sk.i, fun H2 s2 => ?_⟩⟩
  have s12 := s1.trans' s2
  exact ⟨_, rfl, _, rfl, _, rfl, y, v, zv, σ, z, ts, ps, rfl, yk.ya.nl (NL.of s12), sa.keep (Tups.of s12), so, yk.yo.ok, yk.yo.m2, yk.al, sk.a.keep (Tups.of s12), sk.o, fun H3 p s3 hp h3 => q _ _ (s12.trans' s3) (none_of s12 hp) h3⟩
abbrev s_done : Stmt := top 67
abbrev N_done : List Str := ["yard", "state", "station", "sizes"]
theorem sc_done : FnScope N_done ["yard", "state", "station", "sizes"] (defScope s_done) := ⟨rfl, rfl, rfl, by decide +kernel, rfl, by decide +kernel, by decide +kernel⟩
theorem ok_done {dV : List V} (F : FunD K "done" "done" (defArgs s_done) (defBody s_done) (defScope s_done) dV [] f fd) (c_want_state : C8.Cal P w K mg base 5 "want_state" (spWState CY C) []) (c_want_sizes : C8.Cal P w K mg base 3 "want_sizes" (spWSz CY C) []) (c_want_station : C8.Cal P w K mg base 4 "want_station" (spWSt CY C) []) (c_is_possible : C8.Cal P w K mg base 3 "is_possible" (spPoss CY C) []) (c_after_beat : C8.Cal P w K mg base 3 "after_beat" (spAfter CY C) []) : FnOk P w K mg base CX0 6 f fd ["yard", "state", "station", "sizes"] (spDone CY C) := by
  refine okD0 F sc_done (fun vs H Q E h => ?_) (fun cdv A outer s0 H vs Q E hr h => ?_)
  · obtain ⟨y, v, zv, σ, s, z, ts, ps, rfl, _⟩ := h
    rfl
  obtain ⟨y, v, zv, σ, s, z, ts, ps, rfl, yk, sa, so, fo, sk, ls, cs, q⟩ := h
  obtain ⟨r, er⟩ := can_row cs
  have et : ts[s]? = some ts[s] := List.getElem?_eq_getElem ls
  refine ⟨_, (pss_cons (ps_expr (C8.pe_c c_want_state hr (by decide) rfl (pa_cons (pv 0) (pa_cons (pv 1) pa_nil))))
        (pss_cons (ps_expr (C8.pe_c c_want_sizes hr (by decide) rfl (pa_cons (pv 0) (pa_cons (pv 3) pa_nil))))
        (pss_cons (ps_expr (C8.pe_c c_want_station hr (by decide) rfl (pa_cons (pv 0) (pa_cons (pv 2) pa_nil))))
        (pss_cons (ps_if (pt_not (pt_val (C8.pe_c c_is_possible hr (by decide) rfl (pa_cons (pv 0) (pa_cons (pv 1) (pa_cons (pv 2) (pa_cons (pv 3) pa_nil)))))))
        (pss_one ps_never)
        pss_nil)
        (pss_one (ps_ret (C8.pe_c c_after_beat hr (by decide) rfl (pa_cons (pv 0) (pa_cons (pv 1) (pa_cons (pv 2) pa_nil)))))))))), ?_⟩
  refine ⟨_, rfl, _, rfl, y, v, σ, ts, ps, rfl, yk.ya, yk.yo, sa, so, fo, fun H1 s1 => ⟨_, rfl, _, rfl, y, zv, z, ts, ps, rfl, yk.ya.nl (NL.of s1), yk.yo, sk.a.keep (Tups.of s1), sk.o, sk.i, fun H2 s2 => ?_⟩⟩
  have s12 := s1.trans' s2
  refine ⟨_, rfl, _, rfl, y, s, ts, ps, rfl, yk.ya.nl (NL.of s12), yk.yo, ls, ?_⟩
  refine ⟨_, rfl, _, rfl, _, rfl, _, rfl, y, v, zv, σ, s, ts[s], z, ts, ps, rfl, yk.ya.nl (NL.of s12), sa.keep (Tups.of s12), so, et, yk.yo.ok _ (List.getElem_mem ls), yk.al, sk.a.keep (Tups.of s12), sk.o, fun H3 s3 => ⟨_, rfl, ?_⟩⟩
  rw [cs]
  have s13 := s12.trans' s3
  refine iteF ⟨_, rfl, _, rfl, _, rfl, y, v, σ, s, ts[s], r, ts, ps, rfl, yk.ya.nl (NL.of s13), sa.keep (Tups.of s13), so, fo, yk.yo, yk.al, et, er, fun H4 u s4 su => q _ _ (s13.trans' s4) ?_⟩
  unfold aftR
  rw [er]
  exact su
end
end FY


set_option Elab.async false
set_option linter.all false
set_option maxRecDepth 100000
set_option maxHeartbeats 4000000
namespace FY
open PySem L2 FYR
section
variable {P : Program} {w : World} {K : PySem.W.Frag} {mg : Str → Option Value} {base : Heap} {aS a1 a2 aL aT : Addr} {f : Addr} {fd : FuncData} {C CD CY : Addr} {mc : Value}
abbrev s_fault_of : Stmt := top 68
abbrev N_fault_of : List Str := ["yard", "stream", "value", "sizes", "state", "position", "station"]
theorem sc_fault_of : FnScope N_fault_of ["yard", "stream", "value", "sizes"] (defScope s_fault_of) := ⟨rfl, rfl, rfl, by decide +kernel, rfl, by decide +kernel, by decide +kernel⟩
theorem ok_fault_of (F : Fun K "fault_of" "fault_of" s_fault_of f fd) (T : Txt K mg aS a1 a2) (lY : LenC P w K mg base 1 CY (spYL CY C)) (c_is_list : C8.Cal P w K mg base 1 "is_list" spIsList []) (c_begun : C8.Cal P w K mg base 1 "begun" (spBegun CY C) []) (c_is_below : C8.Cal P w K mg base 3 "is_below" spIsBelow []) (c_is_possible : C8.Cal P w K mg base 3 "is_possible" (spPoss CY C) []) (c_after_beat : C8.Cal P w K mg base 3 "after_beat" (spAfter CY C) []) : FnOk P w K mg base CX0 4 f fd ["yard", "stream", "value", "sizes"] (spFault CY C) := by
  refine F.ok sc_fault_of (fun vs H Q E h => ?_) (fun cdv A outer s0 H vs Q E hr h => ?_)
  · obtain ⟨y, L, zv, x, run, σ', z, ts, ps, rfl, _⟩ := h
    rfl
  obtain ⟨y, L, zv, x, run, σ', z, ts, ps, rfl, yk, hL, sk, rs, q⟩ := h
  have m2 := yk.yo.m2
  refine ⟨_, (pss_cons (ps_if (pt_not (pt_val (C8.pe_c c_is_list hr (by decide) rfl (pa_cons (pv 2) pa_nil))))
        (pss_one (ps_ret (pe_tup (pa_cons pe_non (pa_cons (pe_un un_neg pe_int) pa_nil)))))
        pss_nil)
        (pss_cons (ps_set (i := 4) sc_fault_of.nd rfl (Or.inl rfl) (C8.pe_c c_begun hr (by decide) rfl (pa_cons (pv 0) (pa_cons (pv 1) pa_nil))))
        (pss_cons (ps_for PassesOwn.never rfl (kEnum K rfl rfl T.b_enumerate (pa_cons (pv 2) pa_nil)) (kTupG (n := 2) K rfl rfl (pgs_cons (pg_name (i := 5) sc_fault_of.nd rfl (Or.inl rfl)) (pgs_cons (pg_name (i := 6) sc_fault_of.nd rfl (Or.inl rfl)) pgs_nil)))
        (pss_cons (ps_if (PW.pt (pw_or (pt_not (pt_val (C8.pe_c c_is_below hr (by decide) rfl (pa_cons (pv 6) (pa_cons (pe_callB (kLenO lY hr (by decide)) rfl T.b_len bt_len (pa_cons (pv 0) pa_nil)) pa_nil))))) (pw_or1 (pt_not (pt_val (C8.pe_c c_is_possible hr (by decide) rfl (pa_cons (pv 0) (pa_cons (pv 4) (pa_cons (pv 6) (pa_cons (pv 3) pa_nil))))))))))
        (pss_one (ps_ret (pe_tup (pa_cons pe_non (pa_cons (pv 5) pa_nil)))))
        pss_nil)
        (pss_one (ps_set (i := 4) sc_fault_of.nd rfl (Or.inl rfl) (C8.pe_c c_after_beat hr (by decide) rfl (pa_cons (pv 0) (pa_cons (pv 4) (pa_cons (pv 6) pa_nil))))))))
        (pss_one (ps_ret (pe_tup (pa_cons (pv 4) (pa_cons pe_non pa_nil)))))))), ?_⟩
  refine ⟨_, rfl, L, _, rfl, hL, fun H1 s1 => ⟨_, rfl, iteF ⟨_, rfl, _, rfl, y, x, ts, ps, rfl, yk.ya.nl (NL.of s1), yk.yo.ex, fun H2 v s2 sv => ?_⟩⟩⟩
  have s12 := s1.trans' s2
  refine ⟨_, rfl, _, _, rfl, SqL.of (s12 _ _ hL), for_it walk_enum (fun i τ H' => ∃ (a b : Option V) (u : V) (σi : Sta), τ = [some (.ref y), some (.str (tx x)), some (.ref L), some zv, some u, a, b] ∧ Same H H' ∧ StaA H' u σi ∧ RunS ts ps z σi (run.drop i) σ') ⟨_, _, v, _, rfl, s12, sv, rs⟩ (fun i τ H' _ z => by obtain ⟨_, _, _, _, _, sm, _⟩ := z; exact SqL.of (sm _ _ hL)) ?_ ?_⟩
  · rintro i xx τ G1 G2 hi ⟨a, b, u, σi, rfl, sm, su, ru⟩ ⟨T0, i1, i2, rfl, hT0, rfl, hi1, hi2'⟩
    obtain rfl : V.int (i : Nat) = i1 := Option.some.inj hi1
    obtain ⟨s, hs, rfl⟩ := List.getElem?_map_some hi2'
    have eD : run.drop i = s :: run.drop (i + 1) := by
      obtain ⟨h, e⟩ := List.getElem?_eq_some_iff.mp hs
      rw [List.drop_eq_getElem_cons h, e]
    rw [eD] at ru
    cases ru with
    | cons so fo ls cs ru =>
    obtain ⟨r, er⟩ := can_row cs
    have et : ts[s]? = some ts[s] := List.getElem?_eq_getElem ls
    have k0 := same_new hT0 (.tup [.int (i : Nat), .int (s : Nat)])
    have s0' := sm.trans' k0
    have ya' := yk.ya.nl (NL.of s0')
    obtain ⟨dx, b1, b2, b3, b4, b5, b6, kv, kw, hy, _⟩ := ya'.dc
    refine ⟨_, _, rfl, SqT.of upd_same, rfl, _, _, rfl, _, _, rfl, rfl, _, rfl, _, rfl, y, dx, _, rfl, hy, y, ts, ps, rfl, ya', ts.length, rfl, by omega, _, _, rfl, by omega, _, rfl, iteFd (by simp; omega) ?_⟩
    refine ⟨_, rfl, _, rfl, _, rfl, _, rfl, y, u, zv, σi, s, ts[s], z, ts, ps, rfl, ya', su.keep (Tups.of k0), so, et, yk.yo.ok _ (List.getElem_mem ls), yk.al, sk.a.keep (Tups.of s0'), sk.o, fun H3 s3 => ⟨_, rfl, ?_⟩⟩
    rw [cs]
    have s13 := s0'.trans' s3
    refine iteF ⟨_, rfl, _, rfl, _, rfl, y, u, σi, s, ts[s], r, ts, ps, rfl, yk.ya.nl (NL.of s13), su.keep (Tups.of (k0.trans' s3)), so, fo, yk.yo, yk.al, et, er, fun H4 u' s4 su' => ⟨_, _, u', _, rfl, s13.trans' s4, su', ?_⟩⟩
    unfold aftR at ru
    rw [er] at ru
    exact ru
  rintro τ H3 ⟨a, b, u, σi, rfl, sm, su, ru⟩
  rw [nV_len, List.drop_length] at ru
  cases ru with
  | nil _ _ =>
  exact ⟨_, rfl, sz rfl, fun p hp => q _ _ u (sm.trans' (same_new hp _)) upd_same (su.keep (Tups.of (same_new hp _)))⟩
abbrev s_behind_run : Stmt := top 69
abbrev N_behind_run : List Str := ["yard", "stream", "run", "sizes", "state", "fault"]
theorem sc_behind_run : FnScope N_behind_run ["yard", "stream", "run", "sizes"] (defScope s_behind_run) := ⟨rfl, rfl, rfl, by decide +kernel, rfl, by decide +kernel, by decide +kernel⟩
theorem ok_behind_run (F : Fun K "behind_run" "behind_run" s_behind_run f fd) (c_fault_of : C8.Cal P w K mg base 4 "fault_of" (spFault CY C) []) : FnOk P w K mg base CX0 5 f fd ["yard", "stream", "run", "sizes"] (spBehind CY C) := by
  refine F.ok sc_behind_run (fun vs H Q E h => ?_) (fun cdv A outer s0 H vs Q E hr h => ?_)
  · obtain ⟨y, L, zv, x, run, σ', z, ts, ps, rfl, _⟩ := h
    rfl
  obtain ⟨y, L, zv, x, run, σ', z, ts, ps, rfl, yk, hx, hL, sk, rs, q⟩ := h
  refine ⟨_, (pss_cons (ps_asg (C8.pe_c c_fault_of hr (by decide) rfl (pa_cons (pv 0) (pa_cons (pv 1) (pa_cons (pv 2) (pa_cons (pv 3) pa_nil))))) (kTupG (n := 2) K rfl rfl (pgs_cons (pg_name (i := 4) sc_behind_run.nd rfl (Or.inl rfl)) (pgs_cons (pg_name (i := 5) sc_behind_run.nd rfl (Or.inl rfl)) pgs_nil))))
        (pss_cons (ps_if (pt_cmp (pc_isN (pv 4)))
        (pss_one ps_never)
        pss_nil)
        (pss_one (ps_ret (pv 4))))), ?_⟩
  refine ⟨_, rfl, _, rfl, _, rfl, _, rfl, y, L, zv, x, run, σ', z, ts, ps, rfl, yk, hL, sk, rs, fun H1 p v s1 hp sv => ?_⟩
  refine ⟨_, _, rfl, SqT.of hp, rfl, _, _, rfl, _, _, rfl, rfl, ?_⟩
  have sv0 := sv
  obtain ⟨va, _, _, _, rfl, _⟩ := sv
  exact ⟨_, rfl, _, rfl, iteFd (by simp) ⟨_, rfl, q _ _ s1 sv0⟩⟩
abbrev s_state_behind : Stmt := top 70
abbrev N_state_behind : List Str := ["yard", "stream", "run", "sizes"]
theorem sc_state_behind : FnScope N_state_behind ["yard", "stream", "run", "sizes"] (defScope s_state_behind) := ⟨rfl, rfl, rfl, by decide +kernel, rfl, by decide +kernel, by decide +kernel⟩
theorem ok_state_behind {dV : List V} (F : FunD K "state_behind" "state_behind" (defArgs s_state_behind) (defBody s_state_behind) (defScope s_state_behind) dV [] f fd) (c_want_stream : C8.Cal P w K mg base 3 "want_stream" spWantStream []) (c_want_sizes : C8.Cal P w K mg base 3 "want_sizes" (spWSz CY C) []) (c_behind_run : C8.Cal P w K mg base 5 "behind_run" (spBehind CY C) []) : FnOk P w K mg base CX0 6 f fd ["yard", "stream", "run", "sizes"] (spBehind CY C) := by
  refine okD0 F sc_state_behind (fun vs H Q E h => ?_) (fun cdv A outer s0 H vs Q E hr h => ?_)
  · obtain ⟨y, L, zv, x, run, σ', z, ts, ps, rfl, _⟩ := h
    rfl
  obtain ⟨y, L, zv, x, run, σ', z, ts, ps, rfl, yk, hx, hL, sk, rs, q⟩ := h
  refine ⟨_, (pss_cons (ps_expr (C8.pe_c c_want_stream hr (by decide) rfl (pa_cons (pv 1) pa_nil)))
        (pss_cons (ps_expr (C8.pe_c c_want_sizes hr (by decide) rfl (pa_cons (pv 0) (pa_cons (pv 3) pa_nil))))
        (pss_one (ps_ret (C8.pe_c c_behind_run hr (by decide) rfl (pa_cons (pv 0) (pa_cons (pv 1) (pa_cons (pv 2) (pa_cons (pv 3) pa_nil))))))))), ?_⟩
  refine ⟨_, rfl, x, rfl, hx, fun H1 s1 => ⟨_, rfl, _, rfl, y, zv, z, ts, ps, rfl, yk.ya.nl (NL.of s1), yk.yo, sk.a.keep (Tups.of s1), sk.o, sk.i, fun H2 s2 => ?_⟩⟩
  have s12 := s1.trans' s2
  exact ⟨_, rfl, _, rfl, _, rfl, _, rfl, y, L, zv, x, run, σ', z, ts, ps, rfl, yk.keep (NL.of s12), hx, s12 _ _ hL, sk.keep (Tups.of s12), rs, fun H3 v s3 sv => q _ _ (s12.trans' s3) sv⟩
abbrev s_is_full : Stmt := top 71
abbrev N_is_full : List Str := ["yard", "stream", "run", "sizes"]
theorem sc_is_full : FnScope N_is_full ["yard", "stream", "run", "sizes"] (defScope s_is_full) := ⟨rfl, rfl, rfl, by decide +kernel, rfl, by decide +kernel, by decide +kernel⟩
theorem ok_is_full {dV : List V} (F : FunD K "is_full" "is_full" (defArgs s_is_full) (defBody s_is_full) (defScope s_is_full) dV [] f fd) (c_possible : C8.Cal P w K mg base 4 "possible" (spPossible CY C) []) (c_state_behind : C8.Cal P w K mg base 6 "state_behind" (spBehind CY C) []) : FnOk P w K mg base CX0 7 f fd ["yard", "stream", "run", "sizes"] (spFull CY C) := by
  refine okD0 F sc_is_full (fun vs H Q E h => ?_) (fun cdv A outer s0 H vs Q E hr h => ?_)
  · obtain ⟨y, L, zv, x, run, σ', z, ts, ps, rfl, _⟩ := h
    rfl
  obtain ⟨y, L, zv, x, run, σ', z, ts, ps, rfl, yk, hx, hL, sk, rs, q⟩ := h
  have oe := rs.okEnd
  refine ⟨_, (pss_one (ps_ret (pe_cmpR (kEqD K rfl hr.units) (C8.pe_c c_possible hr (by decide) rfl (pa_cons (pv 0) (pa_cons (C8.pe_c c_state_behind hr (by decide) rfl (pa_cons (pv 0) (pa_cons (pv 1) (pa_cons (pv 2) (pa_cons (pv 3) pa_nil))))) (pa_cons (pv 3) pa_nil)))) (pe_lst pa_nil) (nomark _)))), ?_⟩
  refine ⟨_, rfl, _, rfl, _, rfl, _, rfl, _, rfl, y, L, zv, x, run, σ', z, ts, ps, rfl, yk, hx, hL, sk, rs, fun H1 v s1 sv => ?_⟩
  refine ⟨_, rfl, y, v, zv, σ', z, ts, ps, rfl, yk.ya.nl (NL.of s1), sv, oe.1, yk.yo.ok, yk.yo.m2, yk.al, sk.a.keep (Tups.of s1), sk.o, fun H2 p s2 hp h2 => ?_⟩
  refine ⟨sz rfl, fun D hD => ?_⟩
  have k3 := same_new hD (.lst [])
  obtain ⟨a1, a2⟩ := able_small (qs := srt ps) (σ := σ') (z := z) yk.yo.m2
  refine ⟨_, .list [], .lst (SqL.of (k3 _ _ h2)) (dpints _), .lst (SqL.of upd_same) .nil, shp_ints a1 (by omega), by rfl, ?_⟩
  rw [eqv_nil]
  exact q _ ((s1.trans' s2).trans' k3)
end
end FY


set_option Elab.async false
set_option linter.all false
set_option maxRecDepth 100000
set_option maxHeartbeats 4000000
namespace FY
open PySem L2 FYR
section
variable {P : Program} {w : World} {K : PySem.W.Frag} {mg : Str → Option Value} {base : Heap} {aS a1 a2 aL aT : Addr} {f : Addr} {fd : FuncData} {C CD CY : Addr} {mc : Value}
abbrev s_finished : Stmt := top 72
abbrev N_finished : List Str := ["yard", "state", "sizes", "most", "found", "some"]
theorem sc_finished : FnScope N_finished ["yard", "state", "sizes", "most"] (defScope s_finished) := ⟨rfl, rfl, rfl, by decide +kernel, rfl, by decide +kernel, by decide +kernel⟩
theorem ok_finished {dV : List V} (F : FunD K "finished" "finished" (defArgs s_finished) (defBody s_finished) (defScope s_finished) dV [] f fd) (T : Txt K mg aS a1 a2) (c_possible : C8.Cal P w K mg base 4 "possible" (spPossible CY C) []) (c_after_beat : C8.Cal P w K mg base 3 "after_beat" (spAfter CY C) []) : FnOk P w K mg base CX0 5 f fd ["yard", "state", "sizes", "most"] (spFin CY C) := by
  refine okD0 F sc_finished (fun vs H Q E h => ?_) (fun cdv A outer s0 H vs Q E hr h => ?_)
  · obtain ⟨y, v, zv, σ, σ', m, run, z, ts, ps, rfl, _⟩ := h
    rfl
  obtain ⟨y, v, zv, σ, σ', m, run, z, ts, ps, rfl, yk, sa, sk, fs, lm, m5, q⟩ := h
  obtain ⟨so, fo⟩ := fs.ok
  refine ⟨_, (pss_cons (ps_par (i := 4) (j := 5) rfl sc_finished.nd rfl rfl (by decide) rfl rfl (pa_cons (pe_lst pa_nil) (pa_cons (C8.pe_c c_possible hr (by decide) rfl (pa_cons (pv 0) (pa_cons (pv 1) (pa_cons (pv 2) pa_nil)))) pa_nil)) rfl)
        (pss_cons (ps_while PassesOwn.never (pt_cmpR (kNeD K rfl hr.units) (pv 5) (pe_lst pa_nil) (nomark _))
        (pss_cons (ps_if (pt_cmpR op_eq (pe_callB (kLen K rfl) rfl T.b_len bt_len (pa_cons (pv 4) pa_nil)) (pv 3) (nomark _))
        (pss_one ps_never)
        pss_nil)
        (pss_cons (ps_expr (kBm K rfl PySem.F.plainAttrs_list PySem.F.slot_list_append PySem.F.type_list_append mt_append (pv 4) (pa_cons (pe_ix (kIxL K rfl) (pv 5) pe_int (fun _ _ => rfl)) pa_nil)))
        (pss_cons (ps_set (i := 1) sc_finished.nd rfl (Or.inl rfl) (C8.pe_c c_after_beat hr (by decide) rfl (pa_cons (pv 0) (pa_cons (pv 1) (pa_cons (pe_ix (kIxL K rfl) (pv 5) pe_int (fun _ _ => rfl)) pa_nil)))))
        (pss_one (ps_set (i := 5) sc_finished.nd rfl (Or.inl rfl) (C8.pe_c c_possible hr (by decide) rfl (pa_cons (pv 0) (pa_cons (pv 1) (pa_cons (pv 2) pa_nil))))))))))
        (pss_one (ps_ret (pe_tup (pa_cons (pv 1) (pa_cons (pv 4) pa_nil))))))), ?_⟩
  refine ⟨sz rfl, fun L hL => ?_⟩
  have k1 := same_new hL (.lst [])
  refine ⟨_, rfl, _, rfl, _, rfl, y, v, zv, σ, z, ts, ps, rfl, yk.ya.nl (NL.of k1), sa.keep (Tups.of k1), so, yk.yo.ok, yk.yo.m2, yk.al, sk.a.keep (Tups.of k1), sk.o, fun H2 p s2 hp h2 => ?_⟩
  refine ⟨_, _, rfl, ?_⟩
  refine ⟨fun n τ H' => ∃ (u : V) (G : Addr) (σi : Sta) (dn rest : List Nat), τ = [some (.ref y), some u, some zv, some (.int (m : Nat)), some (.ref L), some (.ref G)] ∧ run = dn ++ rest ∧ rest.length = n ∧ Same H H' ∧ StaA H' u σi ∧ FinS ts ps z σi rest σ' ∧ H' L = some (.lst (nV dn)) ∧ H' G = some (.lst (nV (ableS ts (srt ps) σi z))) ∧ G ≠ L, ⟨run.length, v, p, σ, [], run, rfl, rfl, rfl, k1.trans' s2, sa.keep (Tups.of (k1.trans' s2)), fs, s2 _ _ upd_same, h2, (ne_of_none upd_same hp).symm⟩, ?_⟩
  rintro n τ H3 ⟨u, G, σi, dn, rest, rfl, er, rfl, sm, su, fi, hLd, hG, nG⟩
  obtain ⟨a1', a2'⟩ := able_small (qs := srt ps) (σ := σi) (z := z) yk.yo.m2
  refine ⟨_, rfl, sz rfl, fun D hD => ?_⟩
  have k3 := same_new hD (.lst [])
  refine ⟨_, .list [], .lst (SqL.of (k3 _ _ hG)) (dpints _), .lst (SqL.of upd_same) .nil, shp_ints a1' (by omega), by rfl, _, rfl, ?_⟩
  rw [eqv_nil]
  cases fi with
  | stop so' fo' e =>
    refine iteFd (by rw [decide_eq_true e]; rfl) ?_
    rw [List.append_nil] at er
    subst er
    exact ⟨_, rfl, _, rfl, sz rfl, fun p5 hp5 => q _ _ u L ((sm.trans' k3).trans' (same_new hp5 _)) hL upd_same (su.keep (Tups.of (k3.trans' (same_new hp5 _)))) ((k3.trans' (same_new hp5 _)) _ _ hLd)⟩
  | @beat _ _ s r ss so' fo' e fi =>
    obtain ⟨ls, cs⟩ := able_can e
    obtain ⟨rw0, er0⟩ := can_row cs
    have et : ts[s]? = some ts[s] := List.getElem?_eq_getElem ls
    have ld : dn.length < m := by
      have : run.length = dn.length + (r.length + 1) := by rw [er]; simp
      omega
    have sm3 := sm.trans' k3
    refine iteTd (by rw [e]; rfl) ⟨fun τ' H' => ∃ (u : V) (G : Addr) (σi : Sta), τ' = [some (.ref y), some u, some zv, some (.int (m : Nat)), some (.ref L), some (.ref G)] ∧ Same H H' ∧ StaA H' u σi ∧ FinS ts ps z σi r σ' ∧ H' L = some (.lst (nV (dn ++ [s]))) ∧ H' G = some (.lst (nV (ableS ts (srt ps) σi z))) ∧ G ≠ L, fun τ' H' ⟨u, G, σi, h1, h2, h3, h4, h5, h6, h7⟩ => ⟨r.length, by simp, u, G, σi, dn ++ [s], r, h1, by rw [er]; simp, rfl, h2, h3, h4, h5, h6, h7⟩, ?_⟩
    refine ⟨_, rfl, _, _, rfl, .inl (SqL.of (k3 _ _ hLd)), _, rfl, rfl, _, rfl, iteFd (by rw [nV_len]; simp; omega) ?_⟩
    have hG3 := k3 _ _ hG
    rw [e] at hG3
    refine ⟨_, rfl, .inl ⟨rfl, _, SqL.of (k3 _ _ hLd)⟩, _, rfl, _, _, _, _, rfl, rfl, SqL.of hG3, atI_nat (i := 0) rfl, _, _, _, rfl, rfl, k3 _ _ hLd, by rw [nV_len]; exact Nat.lt_of_lt_of_le (show dn.length < 100000 by omega) (by decide), ?_⟩
    have nl4 : NL H3 (upd (upd H3 D (.lst [])) L (.lst (nV dn ++ [.int (s : Nat)]))) := (NL.of k3).trans (NL.at (k3 _ _ hLd))
    have sm4 := same_at (o := .lst (nV dn ++ [.int (s : Nat)])) sm3 hL
    have hG4 : (upd (upd H3 D (.lst [])) L (.lst (nV dn ++ [.int (s : Nat)]))) G = some (.lst (nV (s :: ss))) := (upd_ne nG).trans hG3
    have hL4 : (upd (upd H3 D (.lst [])) L (.lst (nV dn ++ [.int (s : Nat)]))) L = some (.lst (nV (dn ++ [s]))) := by rw [upd_same]; unfold nV; simp
    refine ⟨_, rfl, _, rfl, _, rfl, _, _, _, _, rfl, rfl, SqL.of hG4, atI_nat (i := 0) rfl, y, u, σi, s, ts[s], rw0, ts, ps, rfl, yk.ya.nl (NL.of sm4), su.keep nl4.tups, so', fo', yk.yo, yk.al, et, er0, fun H5 u5 s5 su5 => ?_⟩
    have ef : aftR ts ps σi s = aftS ts (srt ps) (exitsOf ts ps) σi s rw0 := by unfold aftR; rw [er0]
    rw [← ef] at su5
    have sm5 := sm4.trans' s5
    refine ⟨_, rfl, _, rfl, _, rfl, y, u5, zv, aftR ts ps σi s, z, ts, ps, rfl, yk.ya.nl (NL.of sm5), su5, fi.ok.1, yk.yo.ok, yk.yo.m2, yk.al, sk.a.keep (Tups.of sm5), sk.o, fun H6 p6 s6 hp6 h6 => ?_⟩
    exact ⟨u5, p6, _, rfl, sm5.trans' s6, su5.keep (Tups.of s6), fi, s6 _ _ (s5 _ _ hL4), h6, (ne_of_none (s5 _ _ hL4) hp6).symm⟩
abbrev s_full_run : Stmt := top 73
abbrev N_full_run : List Str := ["yard", "stream", "sizes"]
theorem sc_full_run : FnScope N_full_run ["yard", "stream", "sizes"] (defScope s_full_run) := ⟨rfl, rfl, rfl, by decide +kernel, rfl, by decide +kernel, by decide +kernel⟩
theorem ok_full_run {dV : List V} (F : FunD K "full_run" "full_run" (defArgs s_full_run) (defBody s_full_run) (defScope s_full_run) dV [] f fd) (c_want_stream : C8.Cal P w K mg base 3 "want_stream" spWantStream []) (c_want_sizes : C8.Cal P w K mg base 3 "want_sizes" (spWSz CY C) []) (c_begun : C8.Cal P w K mg base 1 "begun" (spBegun CY C) []) (c_finished : C8.Cal P w K mg base 5 "finished" (spFin CY C) [.int (20000 : Nat)]) : FnOk P w K mg base CX0 6 f fd ["yard", "stream", "sizes"] (spRunF CY C) := by
  refine okD0 F sc_full_run (fun vs H Q E h => ?_) (fun cdv A outer s0 H vs Q E hr h => ?_)
  · obtain ⟨y, zv, x, σ', run, z, ts, ps, rfl, _⟩ := h
    rfl
  obtain ⟨y, zv, x, σ', run, z, ts, ps, rfl, yk, hx, sk, fs, l2, q⟩ := h
  refine ⟨_, (pss_cons (ps_expr (C8.pe_c c_want_stream hr (by decide) rfl (pa_cons (pv 1) pa_nil)))
        (pss_cons (ps_expr (C8.pe_c c_want_sizes hr (by decide) rfl (pa_cons (pv 0) (pa_cons (pv 2) pa_nil))))
        (pss_one (ps_ret (pe_ix (kIxT K rfl) (C8.pe_c c_finished hr (by decide) rfl (pa_cons (pv 0) (pa_cons (C8.pe_c c_begun hr (by decide) rfl (pa_cons (pv 0) (pa_cons (pv 1) pa_nil))) (pa_cons (pv 2) pa_nil)))) pe_int (fun _ _ => rfl)))))), ?_⟩
  refine ⟨_, rfl, x, rfl, hx, fun H1 s1 => ⟨_, rfl, _, rfl, y, zv, z, ts, ps, rfl, yk.ya.nl (NL.of s1), yk.yo, sk.a.keep (Tups.of s1), sk.o, sk.i, fun H2 s2 => ?_⟩⟩
  have s12 := s1.trans' s2
  refine ⟨_, rfl, _, rfl, _, rfl, y, x, ts, ps, rfl, yk.ya.nl (NL.of s12), yk.yo.ex, fun H3 v s3 sv => ?_⟩
  have s13 := s12.trans' s3
  refine ⟨_, rfl, y, v, zv, begS ts ps x, σ', 20000, run, z, ts, ps, rfl, yk.keep (NL.of s13), sv, sk.keep (Tups.of s13), fs, l2, by decide, fun H4 p u L s4 hL hp su hL4 => ?_⟩
  exact ⟨_, _, _, _, rfl, rfl, SqT.of hp, atI_nat (i := 1) rfl, q _ _ (s13.trans' s4) (none_of s13 hL) hL4⟩
abbrev s_end : Stmt := top 74
abbrev N_end : List Str := ["yard", "stream", "sizes"]
theorem sc_end : FnScope N_end ["yard", "stream", "sizes"] (defScope s_end) := ⟨rfl, rfl, rfl, by decide +kernel, rfl, by decide +kernel, by decide +kernel⟩
theorem ok_end {dV : List V} (F : FunD K "end" "end" (defArgs s_end) (defBody s_end) (defScope s_end) dV [] f fd) (c_want_stream : C8.Cal P w K mg base 3 "want_stream" spWantStream []) (c_want_sizes : C8.Cal P w K mg base 3 "want_sizes" (spWSz CY C) []) (c_begun : C8.Cal P w K mg base 1 "begun" (spBegun CY C) []) (c_finished : C8.Cal P w K mg base 5 "finished" (spFin CY C) [.int (20000 : Nat)]) : FnOk P w K mg base CX0 6 f fd ["yard", "stream", "sizes"] (spEnd CY C) := by
  refine okD0 F sc_end (fun vs H Q E h => ?_) (fun cdv A outer s0 H vs Q E hr h => ?_)
  · obtain ⟨y, zv, x, σ', run, z, ts, ps, rfl, _⟩ := h
    rfl
  obtain ⟨y, zv, x, σ', run, z, ts, ps, rfl, yk, hx, sk, fs, l2, q⟩ := h
  refine ⟨_, (pss_cons (ps_expr (C8.pe_c c_want_stream hr (by decide) rfl (pa_cons (pv 1) pa_nil)))
        (pss_cons (ps_expr (C8.pe_c c_want_sizes hr (by decide) rfl (pa_cons (pv 0) (pa_cons (pv 2) pa_nil))))
        (pss_one (ps_ret (pe_ix (kIxT K rfl) (C8.pe_c c_finished hr (by decide) rfl (pa_cons (pv 0) (pa_cons (C8.pe_c c_begun hr (by decide) rfl (pa_cons (pv 0) (pa_cons (pv 1) pa_nil))) (pa_cons (pv 2) pa_nil)))) pe_int (fun _ _ => rfl)))))), ?_⟩
  refine ⟨_, rfl, x, rfl, hx, fun H1 s1 => ⟨_, rfl, _, rfl, y, zv, z, ts, ps, rfl, yk.ya.nl (NL.of s1), yk.yo, sk.a.keep (Tups.of s1), sk.o, sk.i, fun H2 s2 => ?_⟩⟩
  have s12 := s1.trans' s2
  refine ⟨_, rfl, _, rfl, _, rfl, y, x, ts, ps, rfl, yk.ya.nl (NL.of s12), yk.yo.ex, fun H3 v s3 sv => ?_⟩
  have s13 := s12.trans' s3
  refine ⟨_, rfl, y, v, zv, begS ts ps x, σ', 20000, run, z, ts, ps, rfl, yk.keep (NL.of s13), sv, sk.keep (Tups.of s13), fs, l2, by decide, fun H4 p u L s4 hL hp su hL4 => ?_⟩
  exact ⟨_, _, _, _, rfl, rfl, SqT.of hp, atI_nat (i := 0) rfl, q _ _ (s13.trans' s4) su⟩
abbrev s_flows : Stmt := top 75
abbrev N_flows : List Str := ["yard", "stream"]
theorem sc_flows : FnScope N_flows ["yard", "stream"] (defScope s_flows) := ⟨rfl, rfl, rfl, by decide +kernel, rfl, by decide +kernel, by decide +kernel⟩
theorem ok_flows (F : Fun K "flows" "flows" s_flows f fd) (T : Txt K mg aS a1 a2) (c_end : C8.Cal P w K mg base 6 "end" (spEnd CY C) [.non]) : FnOk P w K mg base CX0 7 f fd ["yard", "stream"] (spFlows CY C) := by
  refine F.ok sc_flows (fun vs H Q E h => ?_) (fun cdv A outer s0 H vs Q E hr h => ?_)
  · obtain ⟨y, x, σ', run, ts, ps, rfl, _⟩ := h
    rfl
  obtain ⟨y, x, σ', run, ts, ps, rfl, yk, hx, fs, l2, q⟩ := h
  refine ⟨_, (pss_one (ps_ret (pe_callTy call_list_of rfl T.b_list bt_list (pa_cons (pe_ix (kIxT K rfl) (C8.pe_c c_end hr (by decide) rfl (pa_cons (pv 0) (pa_cons (pv 1) pa_nil))) pe_int (fun _ _ => rfl)) pa_nil)))), ?_⟩
  refine ⟨_, rfl, _, rfl, y, .non, x, σ', run, none, ts, ps, rfl, yk, hx, .none, fs, l2, fun H1 u s1 su => ?_⟩
  obtain ⟨a, b, c, d, rfl, h1, h2, h3, h4⟩ := su
  exact ⟨_, _, _, _, rfl, rfl, SqT.of h1, atI_nat (i := 3) rfl, _, _, rfl, .inr (SqT.of h4), fun l hl => q _ _ (s1.trans' (same_new hl _)) (none_of s1 hl) upd_same⟩
end
end FY


set_option Elab.async false
set_option linter.all false
set_option maxRecDepth 100000
set_option maxHeartbeats 4000000
namespace FY
open PySem L2 FYR
/-! ### runs of the program and runs of counts -/
variable {t : Tm} {ts : List Stn} {ps : List Pipe} {x : List Bool}
/-- the state is the one behind k beats -/
def RS (ts : List Stn) (ps : List Pipe) (x : List Bool) (k : List Nat) (σ : Sta) : Prop := ∃ hs, Rch ts (srt ps) x k hs ∧ σ = stA ts (srt ps) (exitsOf ts ps) x k hs
theorem can_sub {qs : List Pipe} {σ : Sta} {s : Nat} {z : Option (List Nat)} (h : canS ts qs σ s z = true) : canS ts qs σ s none = true := by
  obtain ⟨r, e⟩ := can_row h
  unfold canS
  rw [e]
theorem out_short (N : NetOk ts (srt ps)) {k : List Nat} {hs : Hist} (R : Rch ts (srt ps) x k hs) (s o : Nat) : (outH hs s o).length ≤ 2 * (x.length * 2 ^ ts.length) := by
  cases e : ts[s]? with
  | none => rw [R.out_none e]; exact Nat.zero_le _
  | some u =>
    obtain ⟨h, h1, h2, h3⟩ := R.len_out N e
    have hb := R.bound N s
    have hs' := lt_of_get e
    have : x.length * 2 ^ s ≤ x.length * 2 ^ ts.length := Nat.mul_le_mul_left _ (Nat.pow_le_pow_right (by decide) (by omega))
    unfold outH
    rw [h1]
    show ((h[o]?).getD []).length ≤ _
    cases q : h[o]? with
    | none => exact Nat.zero_le _
    | some b =>
      have := h3 b (List.mem_of_getElem? q)
      show b.length ≤ _
      omega
theorem RS.ok (c : CompN t ts ps) {k : List Nat} {σ : Sta} (h : RS ts ps x k σ) (hb : x.length * 2 ^ ts.length ≤ 10000) : StOk ts ps σ ∧ FlOk σ := by
  obtain ⟨hs, R, rfl⟩ := h
  have N := c.net
  have xl : x.length ≤ x.length * 2 ^ ts.length := Nat.le_mul_of_pos_right _ (Nat.pow_pos (by decide))
  refine ⟨⟨by simp [stA], by simp [stA], by simp [stA], fun s u g e e2 => ?_, ?_, fun b hb' => ?_⟩, fun b hb' => ?_⟩
  · have e3 : (ts.mapIdx fun s t => sdH x (srt ps) k hs s t)[s]? = some g := e2
    rw [List.getElem?_mapIdx, e] at e3
    rw [← Option.some.inj e3]
    exact sd_lt N e
  · show (x.drop _).length ≤ _
    rw [List.length_drop]
    omega
  · obtain ⟨p, hp, rfl⟩ := List.mem_map.mp (show b ∈ (srt ps).map _ from hb')
    have := out_short N R p.1 p.2.1
    rw [List.length_drop]
    omega
  · obtain ⟨l, hl, rfl⟩ := List.mem_map.mp (show b ∈ (exitsOf ts ps).map _ from hb')
    have := out_short N R l.1 l.2
    omega
theorem RS.can (c : CompN t ts ps) {k : List Nat} {σ : Sta} (h : RS ts ps x k σ) {s : Nat} (ls : s < ts.length) : canS ts (srt ps) σ s none = true ↔ CanK ts (srt ps) x k s := by
  obtain ⟨hs, R, rfl⟩ := h
  have e : ts[s]? = some ts[s] := List.getElem?_eq_getElem ls
  rw [can_iff c.net R e]
  unfold canS
  rw [row_st c.net c.al e]
  by_cases z : kAt k s < (colH x (srt ps) hs s ts[s].ins).length
  · rw [if_pos z]
    exact ⟨fun _ => z, fun _ => rfl⟩
  · rw [if_neg z]
    exact ⟨fun y => Bool.noConfusion y, fun y => absurd y z⟩
theorem RS.step (c : CompN t ts ps) {k : List Nat} {σ : Sta} (h : RS ts ps x k σ) {s : Nat} (cs : CanK ts (srt ps) x k s) : RS ts ps x (kUp k s) (aftR ts ps σ s) := by
  obtain ⟨hs, R, rfl⟩ := h
  obtain ⟨hs', u, R', e, l⟩ := cs
  obtain rfl := R.same c.net R'
  refine ⟨_, R.step c.net e l, ?_⟩
  unfold aftR
  rw [row_st c.net c.al e, if_pos l]
  exact aft_st c.net c.al c.far c.nd R e l
theorem RS.begin (c : CompN t ts ps) : RS ts ps x (List.replicate ts.length 0) (begS ts ps x) := by
  refine ⟨_, Rch.begin c.net x, ?_⟩
  have k0 : ∀ s, kAt (List.replicate ts.length 0) s = 0 := fun s => by
    unfold kAt
    rw [List.getElem?_replicate]
    split <;> rfl
  have o0 : ∀ s o, outH (ts.map fun t => List.replicate t.outs []) s o = [] := fun s o => by
    unfold outH
    rw [List.getElem?_map]
    cases ts[s]? with
    | none => rfl
    | some u =>
      show ((List.replicate u.outs ([] : List Bool))[o]?).getD [] = []
      rw [List.getElem?_replicate]
      split <;> rfl
  unfold begS stA
  show Sta.mk _ _ _ _ = Sta.mk _ _ _ _
  congr 1
  · refine List.ext_getElem? fun j => ?_
    rw [List.getElem?_replicate, List.getElem?_mapIdx]
    cases z : ts[j]? with
    | none => rw [if_neg (by have := List.getElem?_eq_none_iff.mp z; omega)]; rfl
    | some u =>
      rw [if_pos (lt_of_get z)]
      show some 0 = some (sdH _ _ _ _ _ _)
      unfold sdH
      rw [k0]
      rfl
  · refine List.ext_getElem? fun j => ?_
    rw [List.getElem?_replicate, List.getElem?_map]
    have lp : (srt ps).length = ps.length := (srt_perm ps).length_eq
    cases z : (srt ps)[j]? with
    | none => rw [if_neg (by have := List.getElem?_eq_none_iff.mp z; omega)]; rfl
    | some u =>
      rw [if_pos (by have := lt_of_get z; omega)]
      simp only [Option.map_some]
      rw [o0, List.drop_nil]
  · rw [k0]
    rfl
  · refine List.ext_getElem? fun j => ?_
    rw [List.getElem?_replicate, List.getElem?_map]
    cases z : (exitsOf ts ps)[j]? with
    | none => rw [if_neg (by have := List.getElem?_eq_none_iff.mp z; omega)]; rfl
    | some u =>
      rw [if_pos (lt_of_get z)]
      simp only [Option.map_some]
      rw [o0]
theorem RS.sum (c : CompN t ts ps) {k : List Nat} {σ : Sta} (h : RS ts ps x k σ) : k.sum ≤ x.length * 2 ^ ts.length := by
  obtain ⟨hs, R, _⟩ := h
  exact R.sum c.net
theorem RS.len {k : List Nat} {σ : Sta} (h : RS ts ps x k σ) : k.length = ts.length := by
  obtain ⟨hs, R, _⟩ := h
  exact R.lk
/-- a run of counts is a run of the program -/
theorem runS_of (c : CompN t ts ps) (hb : x.length * 2 ^ ts.length ≤ 10000) {k r k' : List Nat} (h : RunK ts (srt ps) x k r k') : ∀ {σ : Sta}, RS ts ps x k σ → ∃ σ', RunS ts ps none σ r σ' ∧ RS ts ps x k' σ' := by
  induction h with
  | nil k => intro σ rs; exact ⟨σ, .nil (rs.ok c hb).1 (rs.ok c hb).2, rs⟩
  | @cons k0 k9 r0 s cs _ ih =>
    intro σ rs
    have ls : s < ts.length := by rw [← rs.len]; exact can_lt cs
    obtain ⟨σ', h1, h2⟩ := ih (rs.step c cs)
    exact ⟨σ', .cons (rs.ok c hb).1 (rs.ok c hb).2 ls ((rs.can c ls).mpr cs) h1, h2⟩
theorem filter_least {p : Nat → Bool} {n s : Nat} {ss : List Nat} (h : (List.range n).filter p = s :: ss) : ∀ s' < s, p s' = false := by
  intro s' hs
  cases e : p s' with
  | false => rfl
  | true =>
    have hm : s ∈ (List.range n).filter p := by rw [h]; exact List.mem_cons_self ..
    have hn := List.mem_range.mp (List.mem_filter.mp hm).1
    have m' : s' ∈ (List.range n).filter p := List.mem_filter.mpr ⟨List.mem_range.mpr (by omega), e⟩
    have pw : ((List.range n).filter p).Pairwise (· < ·) := List.Pairwise.filter _ List.pairwise_lt_range
    rw [h] at m' pw
    rcases List.mem_cons.mp m' with z | z
    · omega
    · have := (List.pairwise_cons.mp pw).1 s' z
      omega
/-- the first full run -/
theorem finS_of (c : CompN t ts ps) (hb : x.length * 2 ^ ts.length ≤ 10000) : ∀ (n : Nat) {k : List Nat} {σ : Sta}, RS ts ps x k σ → x.length * 2 ^ ts.length - k.sum ≤ n → ∃ F k' σ', FinS ts ps none σ F σ' ∧ LeastK ts (srt ps) x k F k' ∧ FullK ts (srt ps) x k' ∧ RS ts ps x k' σ' := by
  intro n
  induction n with
  | zero =>
    intro k σ rs hn
    obtain ⟨so, fo⟩ := rs.ok c hb
    have full : ∀ s, ¬ CanK ts (srt ps) x k s := fun s cs => by
      have a := (rs.step c cs).sum c
      rw [sum_up (can_lt cs)] at a
      omega
    refine ⟨[], k, σ, .stop so fo ?_, .nil k, full, rs⟩
    refine List.filter_eq_nil_iff.mpr fun s hs h => ?_
    exact full s ((rs.can c (List.mem_range.mp hs)).mp h)
  | succ n ih =>
    intro k σ rs hn
    obtain ⟨so, fo⟩ := rs.ok c hb
    cases e : ableS ts (srt ps) σ none with
    | nil =>
      refine ⟨[], k, σ, .stop so fo e, .nil k, fun s cs => ?_, rs⟩
      have ls : s < ts.length := by rw [← rs.len]; exact can_lt cs
      exact List.filter_eq_nil_iff.mp e s (List.mem_range.mpr ls) ((rs.can c ls).mpr cs)
    | cons s ss =>
      obtain ⟨ls, cs⟩ := able_can e
      have ck := (rs.can c ls).mp cs
      have st := rs.step c ck
      obtain ⟨F, k', σ', h1, h2, h3, h4⟩ := ih st (by rw [sum_up (can_lt ck)]; omega)
      refine ⟨s :: F, k', σ', .beat so fo e h1, .cons ck (fun s' hs' cs' => ?_) h2, h3, h4⟩
      have ls' : s' < ts.length := by omega
      have := filter_least (p := fun s => canS ts (srt ps) σ s none) e s' hs'
      rw [(rs.can c ls').mpr cs'] at this
      cases this
theorem RS.full_able (c : CompN t ts ps) {k : List Nat} {σ : Sta} (rs : RS ts ps x k σ) (f : FullK ts (srt ps) x k) : ableS ts (srt ps) σ none = [] :=
  List.filter_eq_nil_iff.mpr fun s hs h => f s ((rs.can c (List.mem_range.mp hs)).mp h)
theorem RS.able_full (c : CompN t ts ps) {k : List Nat} {σ : Sta} (rs : RS ts ps x k σ) (e : ableS ts (srt ps) σ none = []) : FullK ts (srt ps) x k := fun s cs => by
  have ls : s < ts.length := by rw [← rs.len]; exact can_lt cs
  exact List.filter_eq_nil_iff.mp e s (List.mem_range.mpr ls) ((rs.can c ls).mpr cs)
theorem RS.one_end (c : CompN t ts ps) {k k' : List Nat} {σ σ' : Sta} (rs : RS ts ps x k σ) (f : FullK ts (srt ps) x k) (rs' : RS ts ps x k' σ') (f' : FullK ts (srt ps) x k') : k = k' ∧ σ = σ' := by
  obtain ⟨hs, R, rfl⟩ := rs
  obtain ⟨hs', R', rfl⟩ := rs'
  obtain ⟨rfl, rfl⟩ := R.one_end c.net (full_fullR c.net R f) R' (full_fullR c.net R' f')
  exact ⟨rfl, rfl⟩
theorem RS.at_end (c : CompN t ts ps) {k : List Nat} {σ : Sta} (rs : RS ts ps x k σ) (f : FullK ts (srt ps) x k) : σ.rs = [] ∧ σ.fl = [flow t x] := by
  obtain ⟨hs, R, rfl⟩ := rs
  have F := full_fullR c.net R f
  obtain ⟨e, he, hx⟩ := c.ex
  refine ⟨?_, ?_⟩
  · show x.drop (kAt k 0) = []
    have l0 : 0 < ts.length := c.one
    have e0 : ts[0]? = some ts[0] := List.getElem?_eq_getElem l0
    have i1 := c.net.hd ts[0] (by rw [List.head?_eq_getElem?, e0])
    have f0 := F 0 _ e0
    rw [i1] at f0
    have : (colH x (srt ps) hs 0 1).length = x.length := by
      show (List.map _ (inpH x (srt ps) hs 0 0)).length = _
      rw [List.length_map]
      rfl
    rw [f0, this, List.drop_length]
  · show (exitsOf ts ps).map _ = _
    rw [he]
    simp only [List.map_cons, List.map_nil]
    rw [hx x k hs R F]
/-- a run that is not at the end has given a beginning of the flow -/
theorem RS.part (c : CompN t ts ps) {k k' : List Nat} {σ σ' : Sta} (rs : RS ts ps x k σ) (f : FullK ts (srt ps) x k) (rs' : RS ts ps x k' σ') : (∃ b, σ'.fl = [b] ∧ b = (flow t x).take b.length) ∧ (k'.sum = k.sum → σ' = σ) := by
  obtain ⟨hs, R, rfl⟩ := rs
  obtain ⟨hs', R', rfl⟩ := rs'
  have F := full_fullR c.net R f
  obtain ⟨e, he, hx⟩ := c.ex
  have le := R'.le_full c.net R F
  refine ⟨⟨outH hs' e.1 e.2, ?_, ?_⟩, fun es => ?_⟩
  · show (exitsOf ts ps).map _ = _
    rw [he]
    rfl
  · have pre := R'.mono c.net R le e.1 e.2
    rw [hx x k hs R F] at pre
    exact List.prefix_iff_eq_take.mp pre
  · obtain rfl := (sum_le_eq (by rw [R'.lk, R.lk]) le).2 es
    obtain rfl := R.same c.net R'
    rfl
end FY

set_option Elab.async false
set_option linter.all false
set_option maxRecDepth 100000
set_option maxHeartbeats 4000000
namespace FY
open PySem L2 FYR
theorem Pot.nl {p : Addr} {H H' : Hp} (a : Pot p H) (k : Kp p H H') : NL H H' := fun b o n e => by
  by_cases z : b = p
  · subst z
    obtain ⟨c, d, h, _⟩ := a
    rw [h] at e
    exact absurd (Option.some.inj e).symm (n _)
  · exact k b o z e
def spLed (CY C : Addr) : Sp := fun vs H Q _ => ∃ (p y : Addr) (zv : V) (x : List Bool) (z : Option (List Nat)) (t : Tm) (ts : List Stn) (ps : List Pipe), vs = [.ref p, .ref y, .str (tx x), zv] ∧ Pot p H ∧ YK CY C H y ts ps ∧ CompN t ts ps ∧ x.length * 2 ^ ts.length ≤ 599 ∧ SK H zv ps z ∧
  ∀ (H' : Hp) (T L : Addr) (v : V) (run k : List Nat) (σ : Sta), Kp p H H' → Pot p H' → H L = none → H' T = some (.tup [.ref L, v]) → H' L = some (.lst (nV run)) → StaA H' v σ → RS ts ps x k σ → RunK ts (srt ps) x (List.replicate ts.length 0) run k → (z = none → FullK ts (srt ps) x k) → Q (.ref T) H'
theorem zeros_sum (n : Nat) : (List.replicate n 0).sum = 0 := by simp
section
variable {P : Program} {w : World} {K : PySem.W.Frag} {mg : Str → Option Value} {base : Heap} {aS a1 a2 aL aT : Addr} {f : Addr} {fd : FuncData} {C CD CY : Addr} {mc : Value}
abbrev s_law_led : Stmt := top 117
abbrev N_law_led : List Str := ["_law_pot_here", "_law_yard", "_law_stream_here", "_law_sizes", "_law_state", "_law_run", "_law_turn", "_law_some", "_law_station"]
theorem sc_law_led : FnScope N_law_led ["_law_pot_here", "_law_yard", "_law_stream_here", "_law_sizes"] (defScope s_law_led) := ⟨rfl, rfl, rfl, by decide +kernel, rfl, by decide +kernel, by decide +kernel⟩
theorem ok_law_led (F : Fun K "_law_led" "_law_led" s_law_led f fd) (T : Txt K mg aS a1 a2) (c_begin_of : C8.Cal P w K mg base 4 "begin_of" (spBeginOf CY C) []) (c_can_be_done : C8.Cal P w K mg base 6 "can_be_done" (spCan CY C) []) (c__law_pick : C8.Cal P w K mg base 2 "_law_pick" spPick []) (c_done : C8.Cal P w K mg base 6 "done" (spDone CY C) []) : FnOk P w K mg base CX0 7 f fd ["_law_pot_here", "_law_yard", "_law_stream_here", "_law_sizes"] (spLed CY C) := by
  refine F.ok sc_law_led (fun vs H Q E h => ?_) (fun cdv A outer s0 H vs Q E hr h => ?_)
  · obtain ⟨p, y, zv, x, z, t, ts, ps, rfl, _⟩ := h
    rfl
  obtain ⟨p, y, zv, x, z, t, ts, ps, rfl, po, yk, c, hb, sk, q⟩ := h
  have xl : x.length ≤ x.length * 2 ^ ts.length := Nat.le_mul_of_pos_right _ (Nat.pow_pos (by decide))
  refine ⟨_, (pss_cons (ps_par (i := 4) (j := 5) rfl sc_law_led.nd rfl rfl (by decide) rfl rfl (pa_cons (C8.pe_c c_begin_of hr (by decide) rfl (pa_cons (pv 1) (pa_cons (pv 2) pa_nil))) (pa_cons (pe_lst pa_nil) pa_nil)) rfl)
        (pss_cons (ps_for PassesOwn.never rfl (pi_range1 rfl T.b_range (pa_cons pe_int pa_nil)) (pg_name (i := 6) sc_law_led.nd rfl (Or.inl rfl))
        (pss_cons (ps_set (i := 7) sc_law_led.nd rfl (Or.inl rfl) (C8.pe_c c_can_be_done hr (by decide) rfl (pa_cons (pv 1) (pa_cons (pv 4) (pa_cons (pv 3) pa_nil)))))
        (pss_cons (ps_if (pt_cmpR (kEqD K rfl hr.units) (pv 7) (pe_lst pa_nil) (nomark _))
        (pss_one (ps_ret (pe_tup (pa_cons (pv 5) (pa_cons (pv 4) pa_nil)))))
        pss_nil)
        (pss_cons (ps_set (i := 8) sc_law_led.nd rfl (Or.inl rfl) (C8.pe_c c__law_pick hr (by decide) rfl (pa_cons (pv 0) (pa_cons (pv 7) pa_nil))))
        (pss_cons (ps_set (i := 4) sc_law_led.nd rfl (Or.inl rfl) (C8.pe_c c_done hr (by decide) rfl (pa_cons (pv 1) (pa_cons (pv 4) (pa_cons (pv 8) (pa_cons (pv 3) pa_nil))))))
        (pss_one (ps_expr (kBm K rfl PySem.F.plainAttrs_list PySem.F.slot_list_append PySem.F.type_list_append mt_append (pv 5) (pa_cons (pv 8) pa_nil)))))))))
        (pss_one (ps_ret (pe_tup (pa_cons (pv 5) (pa_cons (pv 4) pa_nil))))))), ?_⟩
  refine ⟨_, rfl, _, rfl, y, x, ts, ps, rfl, yk, by omega, fun H1 v s1 sv => ⟨sz rfl, fun L hL => ⟨_, _, rfl, ?_⟩⟩⟩
  have k2 := same_new hL (.lst [])
  have s2 := s1.trans' k2
  have hLH := none_of s1 hL
  refine ⟨600, rfl, by decide, by decide, for_it walk_range (fun i τ H' => ∃ (a b c : Option V) (u : V) (σ : Sta) (run k : List Nat), τ = [some (.ref p), some (.ref y), some (.str (tx x)), some zv, some u, some (.ref L), a, b, c] ∧ Kp p H H' ∧ Pot p H' ∧ H' L = some (.lst (nV run)) ∧ run.length = i ∧ StaA H' u σ ∧ RS ts ps x k σ ∧ RunK ts (srt ps) x (List.replicate ts.length 0) run k) ⟨_, _, _, v, _, [], _, rfl, Kp.of s2, po.same s2, upd_same, rfl, sv.keep (Tups.of k2), RS.begin c, .nil _⟩ (fun _ _ _ _ _ => trivial) ?_ ?_⟩
  · rintro i xx τ G1 G2 hi ⟨a, b, d, u, σ, run, k, rfl, kp, po', hLr, lr, su, rs, rk⟩ ⟨rfl, hx⟩
    obtain ⟨so, fo⟩ := rs.ok c (by omega)
    have nl := po.nl kp
    refine ⟨_, rfl, _, rfl, _, rfl, y, u, zv, σ, z, ts, ps, rfl, yk.keep nl, su, so, fo, sk.keep nl.tups, fun H3 G s3 hG h3 => ?_⟩
    obtain ⟨a1', a2'⟩ := able_small (qs := srt ps) (σ := σ) (z := z) yk.yo.m2
    refine ⟨_, rfl, sz rfl, fun D hD => ?_⟩
    have k4 := same_new hD (.lst [])
    have s4 := s3.trans' k4
    refine ⟨_, .list [], .lst (SqL.of (k4 _ _ h3)) (dpints _), .lst (SqL.of upd_same) .nil, shp_ints a1' (by omega), by rfl, _, rfl, ?_⟩
    rw [eqv_nil]
    have kp4 := kp.trans (Kp.of (p := p) s4)
    have po4 := po'.same s4
    cases e : ableS ts (srt ps) σ z with
    | nil =>
      refine iteTd (by rfl) ⟨_, rfl, _, rfl, sz rfl, fun T5 hT5 => ?_⟩
      have k5 := same_new hT5 (.tup [.ref L, u])
      refine q _ T5 L u run k σ (kp4.trans (Kp.of k5)) (po4.same k5) hLH upd_same (k5 _ _ (s4 _ _ hLr)) (su.keep (Tups.of (s4.trans' k5))) rs rk fun ez => ?_
      subst ez
      exact rs.able_full c e
    | cons s9 ss9 =>
      refine iteFd (by rfl) ?_
      have pL : L ≠ p := fun z => by obtain ⟨c', d', h', _⟩ := po; rw [z, h'] at hLH; cases hLH
      have pG : G ≠ p := fun z => by obtain ⟨c', d', h', _⟩ := po'; rw [z, h'] at hG; cases hG
      refine ⟨_, rfl, _, rfl, p, G, _, rfl, po4, pG, k4 _ _ h3, ?_, ?_, fun xv H5 hxv kp5 po5 => ?_⟩
      · rw [nV_len, e]; simp
      · rw [nV_len]; exact a2'
      obtain ⟨s, hs, rfl⟩ := List.mem_map.mp hxv
      obtain ⟨hs1, cs⟩ := List.mem_filter.mp hs
      have ls := List.mem_range.mp hs1
      have kp5' := kp4.trans kp5
      have nl5 := po.nl kp5'
      have nl45 := (NL.of s4).trans (po4.nl kp5)
      refine ⟨_, rfl, _, rfl, _, rfl, _, rfl, y, u, zv, σ, s, z, ts, ps, rfl, yk.keep nl5, su.keep nl45.tups, so, fo, sk.keep nl5.tups, ls, cs, fun H6 u6 s6 su6 => ?_⟩
      have hL6 := s6 _ _ (kp5 _ _ pL (s4 _ _ hLr))
      have ck := (rs.can c ls).mp (can_sub cs)
      have rk' := rk.snoc ck
      have hsum := (rs.step c ck).sum c
      refine ⟨_, rfl, .inl ⟨rfl, _, SqL.of hL6⟩, _, rfl, _, _, _, rfl, rfl, hL6, by rw [nV_len]; exact Nat.lt_of_lt_of_le (show run.length < 100000 by omega) (by decide), ?_⟩
      exact ⟨_, _, _, u6, _, run ++ [s], _, rfl, kp_at (kp5'.trans (Kp.of s6)) hLH, pot_at (po5.same s6) pL, by rw [upd_same]; unfold nV; simp, by simp [lr], su6.keep (tups_at hL6), rs.step c ck, rk'⟩
  · rintro τ H3 ⟨a, b, d, u, σ, run, k, rfl, kp, po', hLr, lr, su, rs, rk⟩
    exfalso
    have h1 := rs.sum c
    have h2 := rk.sum
    rw [zeros_sum] at h2
    omega
end
end FY


set_option Elab.async false
set_option linter.all false
set_option maxRecDepth 100000
set_option maxHeartbeats 4000000
namespace FY
open PySem L2 FYR
def staD (σ : Sta) : PyData := .tuple [.tuple (σ.sd.map fun (n : Nat) => PyData.int (n : Nat)), .tuple (σ.ct.map fun b => PyData.str (tx b)), .str (tx σ.rs), .tuple (σ.fl.map fun b => PyData.str (tx b))]
theorem StaA.dp {K : PySem.W.Frag} {H : Hp} {v : V} {σ : Sta} (h : StaA H v σ) : Dp K H v (staD σ) := by
  obtain ⟨a, p, q, r, rfl, h1, h2, h3, h4⟩ := h
  exact .tup (SqT.of h1) (.cons (.tup (SqT.of h2) (dpints _)) (.cons (.tup (SqT.of h3) (dpstr _)) (.cons (.str _) (.cons (.tup (SqT.of h4) (dpstr _)) .nil))))
theorem nice_ints {ns : List Nat} {m : Nat} (h : ∀ n ∈ ns, n ≤ 100) (hl : ns.length ≤ m) : Nice 1 (m * 8) (.tuple (ns.map fun (n : Nat) => PyData.int (n : Nat))) :=
  nice_tup (n := 0) (w := 7) (by intro d hd; obtain ⟨n, hn, rfl⟩ := List.mem_map.mp hd; exact nice_int (h n hn)) (by rw [List.length_map]; exact hl)
theorem nice_strs {bs : List (List Bool)} {m n : Nat} (h : ∀ b ∈ bs, b.length ≤ n) (hl : bs.length ≤ m) : Nice 1 (m * (n + 1)) (.tuple (bs.map fun b => PyData.str (tx b))) :=
  nice_tup (n := 0) (w := n) (by intro d hd; obtain ⟨b, hb, rfl⟩ := List.mem_map.mp hd; exact nice_str (h b hb)) (by rw [List.length_map]; exact hl)
theorem sta_nice {ts : List Stn} {ps : List Pipe} {σ : Sta} (yo : YdOk ts ps) (so : StOk ts ps σ) (fo : FlOk σ) : Nice 2 (4 * (64 * 100001 + 1)) (staD σ) := by
  have lp : (srt ps).length = ps.length := (srt_perm ps).length_eq
  have := yo.mp
  have := yo.m2
  have := yo.ex
  have n1 : Nice 1 (12 * 8) (.tuple (σ.sd.map fun (n : Nat) => PyData.int (n : Nat))) := nice_ints (fun n hn => by
    obtain ⟨i, hi⟩ := List.mem_iff_getElem?.mp hn
    have li : i < ts.length := by rw [← so.ls]; exact lt_len hi
    have := so.st i _ n (List.getElem?_eq_getElem li) hi
    have := (yo.ok _ (List.getElem_mem li)).m2
    omega) (by rw [so.ls]; omega)
  have n2 : Nice 1 (64 * 100001) (.tuple (σ.ct.map fun b => PyData.str (tx b))) := nice_strs so.cb (by rw [so.lc]; omega)
  have n3 : Nice 0 100000 (.str (tx σ.rs)) := nice_str so.rb
  have n4 : Nice 1 (3 * 100001) (.tuple (σ.fl.map fun b => PyData.str (tx b))) := nice_strs fo (by rw [so.lf]; omega)
  refine nice_tup (n := 1) (w := 64 * 100001) (m := 4) (fun d hd => ?_) (by simp)
  simp only [List.mem_cons, List.not_mem_nil, or_false] at hd
  rcases hd with rfl | rfl | rfl | rfl
  · exact n1.mono (by decide) (by decide)
  · exact n2
  · exact n3.mono (by decide) (by decide)
  · exact n4.mono (by decide) (by decide)
def spRt : Sp := fun vs H Q _ => ∃ p, vs = [.ref p] ∧ Pot p H ∧ ∀ H', Q (.bl true) H'
theorem map_ofNat (ns : List Nat) : nV ns = (ns.map Int.ofNat).map V.int := by unfold nV; rw [List.map_map]; rfl
theorem nice_l1 {b : List Bool} (h : b.length ≤ 8000) : Nice 1 8001 (.list [.str (tx b)]) := (nice_lst (n := 0) (w := 8000) (m := 1) (by intro d hd; rw [List.mem_singleton.mp hd]; exact nice_str h) (by simp)).mono (by decide) (by decide)
theorem nice_t1 {b : List Bool} (h : b.length ≤ 8000) : Nice 1 8001 (.tuple [.str (tx b)]) := (nice_tup (n := 0) (w := 8000) (m := 1) (by intro d hd; rw [List.mem_singleton.mp hd]; exact nice_str h) (by simp)).mono (by decide) (by decide)
theorem nice_t2 {b : List Bool} (h : b.length ≤ 8000) : Nice 2 16004 (.tuple [.str (tx []), .tuple [.str (tx b)]]) := (nice_tup (n := 1) (w := 8001) (m := 2) (by
  intro d hd
  simp only [List.mem_cons, List.not_mem_nil, or_false] at hd
  rcases hd with rfl | rfl
  · exact (nice_str (b := []) (m := 0) (Nat.le_refl _)).mono (by decide) (by decide)
  · exact nice_t1 h) (by simp)).mono (by decide) (by decide)
theorem run_lt {ts : List Stn} {qs : List Pipe} {x : List Bool} {k r k' : List Nat} (h : RunK ts qs x k r k') : ∀ s ∈ r, s < ts.length := by
  induction h with
  | nil k => intro s hs; simp at hs
  | cons c _ ih =>
    intro s hs
    rcases List.mem_cons.mp hs with e | e
    · obtain ⟨_, u, _, e2, _⟩ := c
      rw [e]
      exact lt_of_get e2
    · exact ih s e
theorem ints_nat {ns : List Int} {fs : List Nat} (p : ns.Perm (fs.map Int.ofNat)) : ∃ ms : List Nat, ns = ms.map Int.ofNat ∧ ms.Perm fs := by
  have key : ∀ l : List Int, (∀ n ∈ l, 0 ≤ n) → l = (l.map Int.toNat).map Int.ofNat := by
    intro l
    induction l with
    | nil => intro _; rfl
    | cons n r ih =>
      intro h
      rw [List.map_cons, List.map_cons, ← ih fun m hm => h m (List.mem_cons_of_mem _ hm)]
      have : Int.ofNat n.toNat = n := Int.toNat_of_nonneg (h n (List.mem_cons_self ..))
      rw [this]
  refine ⟨ns.map Int.toNat, key ns fun n hn => ?_, ?_⟩
  · obtain ⟨f, _, rfl⟩ := List.mem_map.mp (p.mem_iff.mp hn)
    exact Int.natCast_nonneg f
  · have := p.map Int.toNat
    rw [List.map_map] at this
    have e : fs.map (Int.toNat ∘ Int.ofNat) = fs := by
      refine Eq.trans (List.map_congr_left (g := id) fun n _ => rfl) (List.map_id fs)
    rw [e] at this
    exact this
theorem dpI {K : PySem.W.Frag} {H : Hp} (ns : List Nat) : DpAll K H (nV ns) ((ns.map Int.ofNat).map PyData.int) := by
  have := dpints (K := K) (H := H) ns
  rw [List.map_map]
  exact this
theorem str_shp {b : List Bool} {m : Nat} (h : b.length ≤ m) : SeqAt.shaped (.list [.str (tx b)]) = true := (nice_lst (n := 0) (w := m) (m := 1) (by intro d hd; rw [List.mem_singleton.mp hd]; exact nice_str h) (by simp)).shp (by decide)
section
variable {P : Program} {w : World} {K : PySem.W.Frag} {mg : Str → Option Value} {base : Heap} {aS a1 a2 aL aT : Addr} {f : Addr} {fd : FuncData} {C CD CY : Addr} {mc : Value}
abbrev s_law_right : Stmt := top 118
abbrev N_law_right : List Str := ["_law_pot_here", "_law_term_here", "_law_stream_here", "_law_yard", "_law_due", "_law_run", "_law_state", "_law_last", "_law_first", "_law_narrow", "_law_there", "_law_flow_here"]
theorem sc_law_right : FnScope N_law_right ["_law_pot_here"] (defScope s_law_right) := ⟨rfl, rfl, rfl, by decide +kernel, rfl, by decide +kernel, by decide +kernel⟩
theorem ok_law_right (F : Fun K "_law_right" "_law_right" s_law_right f fd) (T : Txt K mg aS a1 a2) (c__law_draw : C8.Cal P w K mg base 1 "_law_draw" spDraw []) (c__law_term : C8.Cal P w K mg base 12 "_law_term" (spTerm 9) []) (c__law_stream : C8.Cal P w K mg base 3 "_law_stream" spStream []) (c_compiled : C8.Cal P w K mg base 30 "compiled" (spCompiled CY C) []) (c__law_flow : C8.Cal P w K mg base 12 "_law_flow" (spFlowL 9) []) (c_flow_of : C8.Cal P w K mg base 13 "flow_of" spFlowOf []) (c_flows : C8.Cal P w K mg base 7 "flows" (spFlows CY C) []) (c__law_led : C8.Cal P w K mg base 7 "_law_led" (spLed CY C) []) (c_end : C8.Cal P w K mg base 6 "end" (spEnd CY C) [.non]) (c_is_full : C8.Cal P w K mg base 7 "is_full" (spFull CY C) [.non]) (c_full_run : C8.Cal P w K mg base 6 "full_run" (spRunF CY C) [.non]) (c_state_behind : C8.Cal P w K mg base 6 "state_behind" (spBehind CY C) [.non]) (pr_Y_pipes : Prp P w K mg base 1 CY "pipes" (spYP CY C)) : FnOk P w K mg base CX0 31 f fd ["_law_pot_here"] spRt := by
  refine F.ok sc_law_right (fun vs H Q E h => ?_) (fun cdv A outer s0 H vs Q E hr h => ?_)
  · obtain ⟨p, rfl, _⟩ := h
    rfl
  obtain ⟨p, rfl, po, q⟩ := h
  refine ⟨_, (pss_cons (ps_par (i := 1) (j := 2) rfl sc_law_right.nd rfl rfl (by decide) rfl rfl (pa_cons (C8.pe_c c__law_term hr (by decide) rfl (pa_cons (pv 0) (pa_cons (pe_op op_add pe_int (C8.pe_c c__law_draw hr (by decide) rfl (pa_cons (pv 0) (pa_cons pe_int pa_nil)))) pa_nil))) (pa_cons (C8.pe_c c__law_stream hr (by decide) rfl (pa_cons (pv 0) (pa_cons pe_int pa_nil))) pa_nil)) rfl)
        (pss_cons (ps_par (i := 3) (j := 4) rfl sc_law_right.nd rfl rfl (by decide) rfl rfl (pa_cons (C8.pe_c c_compiled hr (by decide) rfl (pa_cons (pv 1) pa_nil)) (pa_cons (C8.pe_c c__law_flow hr (by decide) rfl (pa_cons (pv 1) (pa_cons (pv 2) pa_nil))) pa_nil)) rfl)
        (pss_cons (ps_if (PW.pt (pw_or (pt_cmpR op_ne (C8.pe_c c_flow_of hr (by decide) rfl (pa_cons (pv 1) (pa_cons (pv 2) pa_nil))) (pv 4) (nomark _)) (pw_or1 (pt_cmpR (kNeD K rfl hr.units) (C8.pe_c c_flows hr (by decide) rfl (pa_cons (pv 3) (pa_cons (pv 2) pa_nil))) (pe_lst (pa_cons (pv 4) pa_nil)) (nomark _)))))
        (pss_one (ps_ret pe_bl))
        pss_nil)
        (pss_cons (ps_asg (C8.pe_c c__law_led hr (by decide) rfl (pa_cons (pv 0) (pa_cons (pv 3) (pa_cons (pv 2) (pa_cons pe_non pa_nil))))) (kTupG (n := 2) K rfl rfl (pgs_cons (pg_name (i := 5) sc_law_right.nd rfl (Or.inl rfl)) (pgs_cons (pg_name (i := 6) sc_law_right.nd rfl (Or.inl rfl)) pgs_nil))))
        (pss_cons (ps_set (i := 7) sc_law_right.nd rfl (Or.inl rfl) (C8.pe_c c_end hr (by decide) rfl (pa_cons (pv 3) (pa_cons (pv 2) pa_nil))))
        (pss_cons (ps_if (PW.pt (pw_or (pt_cmpR (kNeD K rfl hr.units) (pv 6) (pv 7) (nomark _)) (pw_or (pt_cmpR (kNeD K rfl hr.units) (pe_slice (kSlT K rfl) (pv 7) (po_some pe_int) po_none) (pe_tup (pa_cons pe_str (pa_cons (pe_tup (pa_cons (pv 4) pa_nil)) pa_nil))) (nomark _)) (pw_or1 (pt_not (pt_val (C8.pe_c c_is_full hr (by decide) rfl (pa_cons (pv 3) (pa_cons (pv 2) (pa_cons (pv 5) pa_nil))))))))))
        (pss_one (ps_ret pe_bl))
        pss_nil)
        (pss_cons (ps_set (i := 8) sc_law_right.nd rfl (Or.inl rfl) (C8.pe_c c_full_run hr (by decide) rfl (pa_cons (pv 3) (pa_cons (pv 2) pa_nil))))
        (pss_cons (ps_if (PW.pt (pw_or (pt_cmpR (kNeD K rfl hr.units) (pe_callB (kSortI K rfl) rfl T.b_sorted bt_sorted (pa_cons (pv 8) pa_nil)) (pe_callB (kSortI K rfl) rfl T.b_sorted bt_sorted (pa_cons (pv 5) pa_nil)) (nomark _)) (pw_or (pt_cmpR (kGtL K rfl hr.units) (pv 8) (pv 5) (nomark _)) (pw_or1 (pt_cmpR (kNeD K rfl hr.units) (C8.pe_c c_state_behind hr (by decide) rfl (pa_cons (pv 3) (pa_cons (pv 2) (pa_cons (pv 8) pa_nil)))) (pv 7) (nomark _))))))
        (pss_one (ps_ret pe_bl))
        pss_nil)
        (pss_cons (ps_asg (C8.pe_c c__law_led hr (by decide) rfl (pa_cons (pv 0) (pa_cons (pv 3) (pa_cons (pv 2) (pa_cons (pe_op (kRepA K rfl) (pe_tup (pa_cons pe_int pa_nil)) (pe_callB (kLen K rfl) rfl T.b_len bt_len (pa_cons (kPrp pr_Y_pipes hr (by decide) (pv 3)) pa_nil))) pa_nil))))) (kTupG (n := 2) K rfl rfl (pgs_cons (pg_name (i := 9) sc_law_right.nd rfl (Or.inl rfl)) (pgs_cons (pg_name (i := 10) sc_law_right.nd rfl (Or.inl rfl)) pgs_nil))))
        (pss_cons (ps_if (PW.pt (pw_and (pt_cmpR op_eq (pe_callB (kLen K rfl) rfl T.b_len bt_len (pa_cons (pv 9) pa_nil)) (pe_callB (kLen K rfl) rfl T.b_len bt_len (pa_cons (pv 5) pa_nil)) (nomark _)) (pw_and1 (pt_cmpR (kNeD K rfl hr.units) (pv 10) (pv 7) (nomark _)))))
        (pss_one (ps_ret pe_bl))
        pss_nil)
        (pss_cons (ps_set (i := 11) sc_law_right.nd rfl (Or.inl rfl) (pe_slice sl_str (pv 4) po_none (po_some (pe_callB call_len_str rfl T.b_len bt_len (pa_cons (pe_ix (kIxT K rfl) (pe_ix (kIxT K rfl) (pv 10) pe_int (fun _ _ => rfl)) pe_int (fun _ _ => rfl)) pa_nil)))))
        (pss_one (ps_ret (pe_and (pe_cmpR (kEqD K rfl hr.units) (pe_ix (kIxT K rfl) (pv 10) pe_int (fun _ _ => rfl)) (pe_tup (pa_cons (pv 11) pa_nil)) (nomark _)) (pe_one (kBm K rfl PySem.F.plainAttrs_str PySem.F.slot_str_startswith PySem.F.type_str_startswith mt_startswith (pv 4) (pa_cons (pe_ix (kIxL K rfl) (C8.pe_c c_flows hr (by decide) rfl (pa_cons (pv 3) (pa_cons (pe_slice sl_str (pv 2) po_none (po_some (C8.pe_c c__law_draw hr (by decide) rfl (pa_cons (pv 0) (pa_cons pe_int pa_nil))))) pa_nil))) pe_int (fun _ _ => rfl)) pa_nil))))))))))))))))), ?_⟩
  refine ⟨_, rfl, _, rfl, p, _, rfl, po, by decide, by decide, fun d H1 d0 d1 k1 p1 => ⟨_, _, rfl, rfl, p, _, rfl, p1, by omega, by omega, by decide, fun v t H2 ht hn k2 p2 => ?_⟩⟩
  refine ⟨_, rfl, p, _, rfl, p2, by decide, by decide, fun x H3 xl k3 p3 => ⟨_, _, rfl, ?_⟩⟩
  have n9 : t.nodes ≤ 9 := by omega
  have n6 : t.nodes ≤ 6 := by omega
  have x5 : x.length ≤ 5 := by omega
  have ht3 := ht.keep (p2.tups k3)
  obtain ⟨sok, yo, ex1⟩ := fin_ok t n9
  have c := comp_net t
  have fb : 2 ^ (t.nodes - 1) * x.length ≤ 160 := Nat.le_trans (Nat.mul_le_mul (Nat.pow_le_pow_right (by decide) (show t.nodes - 1 ≤ 5 by omega)) x5) (by decide)
  refine ⟨_, rfl, v, t, rfl, ht3, n9, sok, fun H4 y s4 ya4 => ?_⟩
  have yk4 : YK CY C H4 y (finS (wst t)).1 (finS (wst t)).2 := ⟨ya4, yo, c.al⟩
  have ht4 := ht3.keep (Tups.of s4)
  have p4 := p3.same s4
  clear ya4 k1 k2 k3 p1 p2 p3 ht ht3 ex1 sok
  generalize (finS (wst t)).1 = ts at *
  generalize (finS (wst t)).2 = ps at *
  have ln := c.len
  have m6 : max 2 t.nodes ≤ 6 := by omega
  have tl : ts.length ≤ 5 := by omega
  have hbx : ∀ x' : List Bool, x'.length ≤ 5 → x'.length * 2 ^ ts.length ≤ 160 := fun x' h => Nat.le_trans (Nat.mul_le_mul h (Nat.pow_le_pow_right (by decide) tl)) (by decide)
  have hb := hbx x x5
  obtain ⟨Fr, kF, σF, fS, lK, fK, rF⟩ := finS_of c (x := x) (by omega) _ (RS.begin c) (Nat.le_refl _)
  obtain ⟨eR, eF⟩ := rF.at_end c fK
  have lF : Fr.length ≤ 160 := by
    have h1 := lK.run.sum
    have h2 := rF.sum c
    rw [zeros_sum] at h1
    omega
  have due5 : (flow t x).length ≤ 8000 := by
    have := flow_len t x
    omega
  refine ⟨_, rfl, _, rfl, v, t, x, rfl, ht4, n9, by omega, by omega, fun H5 s5 => ⟨_, _, rfl, ?_⟩⟩
  refine ⟨_, rfl, _, rfl, v, t, x, rfl, ht4.keep (Tups.of s5), n9, by omega, by omega, fun H6 s6 => ⟨_, rfl, rfl, _, rfl, iteFd (by simp) ?_⟩⟩
  have s46 := s5.trans' s6
  have l1 := nice_l1 due5
  refine ⟨_, rfl, _, rfl, y, x, σF, Fr, ts, ps, rfl, yk4.keep (NL.of s46), by omega, fS, by omega, fun H7 L7 s7 hL7 h7 => ?_⟩
  have h7' : H7 L7 = some (.lst [.str (tx (flow t x))]) := by rw [h7, eF]; rfl
  refine ⟨_, rfl, sz rfl, fun D8 hD8 => ?_⟩
  have k8 := same_new hD8 (.lst [.str (tx (flow t x))])
  refine ⟨.list [.str (tx (flow t x))], .list [.str (tx (flow t x))], .lst (SqL.of (k8 _ _ h7')) (.cons (.str _) .nil), .lst (SqL.of upd_same) (.cons (.str _) .nil), l1.shp (by decide), l1.shp (by decide), _, rfl, iteFd (by rw [eqv_dec l1.lay]; rfl) ?_⟩
  have s48 := s46.trans' (s7.trans' k8)
  have p8 := p4.same s48
  have yk8 := yk4.keep (NL.of s48)
  clear h7 h7' hL7
  generalize upd H7 D8 (.lst [.str (tx (flow t x))]) = H8 at *
  refine ⟨_, rfl, _, rfl, _, rfl, p, y, .non, x, none, t, ts, ps, rfl, p8, yk8, c, by omega, .none, fun H9 T9 L9 v9 run k σ kp9 p9 hL9 hT9 hr9 sv9 rs9 rk9 full9 => ?_⟩
  refine ⟨_, _, rfl, SqT.of hT9, rfl, _, _, rfl, _, _, rfl, rfl, ?_⟩
  obtain ⟨rfl, rfl⟩ := rs9.one_end c (full9 rfl) rF fK
  obtain ⟨so, fo⟩ := rs9.ok c (by omega)
  have nS := sta_nice yo so fo
  have yk9 := yk8.keep (p8.nl kp9)
  have nL9 : L9 ≠ p := fun z => by obtain ⟨c', d', h', _⟩ := p8; rw [z, h'] at hL9; cases hL9
  clear s48 k8 s46 s7 s5 s6 yk8 yk4 p4 p8 kp9 hL9 ht4 s4
  refine ⟨_, rfl, _, rfl, y, .non, x, σ, Fr, none, ts, ps, rfl, yk9, by omega, .none, fS, by omega, fun H10 u10 s10 su10 => ?_⟩
  refine ⟨_, rfl, _, rfl, staD σ, staD σ, (sv9.keep (Tups.of s10)).dp, su10.dp, nS.shp (by decide), nS.shp (by decide), _, rfl, iteFd (by rw [eqv_dec nS.lay]; rfl) ?_⟩
  have su0 := su10
  obtain ⟨ua, ub, uc, ud, rfl, g1, g2, g3, g4⟩ := su10
  refine ⟨_, rfl, 2, rfl, _, _, rfl, SqT.of g1, nw2, fun pc hpc => ?_⟩
  have hcv : cutV [V.ref ub, V.ref uc, V.str (tx σ.rs), V.ref ud] (some 2) none = [V.str (tx σ.rs), V.ref ud] := by rfl
  rw [hcv]
  have k11 := same_new hpc (.tup [.str (tx σ.rs), .ref ud])
  refine ⟨_, rfl, sz rfl, fun a1 ha1 => ⟨sz rfl, fun a2 ha2 => ?_⟩⟩
  have k12 := same_new ha1 (.tup [.str (tx (flow t x))])
  have k13 := same_new ha2 (.tup [.str "", .ref a1])
  have k23 := k12.trans' k13
  have t2 := nice_t2 due5
  have hpc2 := k23 pc _ (upd_same (o := .tup [V.str (tx σ.rs), V.ref ud]))
  have g4' := k23 _ _ (k11 _ _ g4)
  rw [eF] at g4'
  refine ⟨.tuple [.str (tx []), .tuple [.str (tx (flow t x))]], .tuple [.str (tx []), .tuple [.str (tx (flow t x))]], .tup (SqT.of hpc2) (.cons (by rw [eR]; exact .str _) (.cons (.tup (SqT.of g4') (.cons (.str _) .nil)) .nil)), .tup (SqT.of upd_same) (.cons (by rw [show ("" : Str) = tx [] by decide +kernel]; exact .str _) (.cons (.tup (SqT.of (k13 _ _ upd_same)) (.cons (.str _) .nil)) .nil)), t2.shp (by decide), t2.shp (by decide), _, rfl, iteFd (by rw [eqv_dec t2.lay]; rfl) ?_⟩
  obtain ⟨σ2, rS2, rs2⟩ := runS_of c (x := x) (by omega) rk9 (RS.begin c)
  obtain rfl := (rs2.one_end c (full9 rfl) rs9 (full9 rfl)).2
  have s13 := s10.trans' (k11.trans' k23)
  refine ⟨_, rfl, _, rfl, _, rfl, y, L9, .non, x, run, σ2, none, ts, ps, rfl, yk9.keep (NL.of s13), by omega, s13 _ _ hr9, .none, rS2, fun H14 s14 => ⟨_, rfl, ?_⟩⟩
  rw [decide_eq_true (rs9.full_able c (full9 rfl))]
  refine iteF ?_
  have s14' := s13.trans' s14
  refine ⟨_, rfl, _, rfl, y, .non, x, σ2, Fr, none, ts, ps, rfl, yk9.keep (NL.of s14'), by omega, .none, fS, by omega, fun H15 L15 s15 hL15 h15 => ?_⟩
  have s15' := s14'.trans' s15
  have F100 : ∀ n ∈ Fr, n ≤ 100 := fun n hn => by have := run_lt lK.run n hn; omega
  have r100 : ∀ n ∈ run, n ≤ 100 := fun n hn => by have := run_lt rk9 n hn; omega
  have pm : Fr.Perm run := lK.run.perm rk9
  have hr15 := s15' _ _ hr9
  refine ⟨_, rfl, L15, Fr.map Int.ofNat, rfl, SqL.of (by rw [h15, map_ofNat]), fun n1 q1 pm1 pw1 hq1 => ?_⟩
  have k16 := same_new hq1 (.lst (n1.map V.int))
  refine ⟨_, rfl, L9, run.map Int.ofNat, rfl, SqL.of (by rw [k16 _ _ hr15, map_ofNat]), fun n2 q2 pm2 pw2 hq2 => ?_⟩
  have k17 := same_new hq2 (.lst (n2.map V.int))
  obtain rfl : n1 = n2 := sorted_eq pm1 pm2 (pm.map Int.ofNat) pw1 pw2
  obtain ⟨ms, rfl, pms⟩ := ints_nat pm1
  have ms100 : ∀ n ∈ ms, n ≤ 100 := fun n hn => F100 n (pms.mem_iff.mp hn)
  have msl : ms.length ≤ 100000 := by rw [pms.length_eq]; omega
  have msn : Nice 1 800000 (.list (ms.map fun (n : Nat) => PyData.int (n : Nat))) := nice_lst (n := 0) (w := 7) (m := 100000) (by intro d hd; obtain ⟨n, hn, rfl⟩ := List.mem_map.mp hd; exact nice_int (ms100 n hn)) (by rw [List.length_map]; exact msl)
  have hq1' := k17 _ _ (upd_same (H := H15) (a := q1) (o := .lst ((ms.map Int.ofNat).map V.int)))
  have hq2' := upd_same (H := upd H15 q1 (.lst ((ms.map Int.ofNat).map V.int))) (a := q2) (o := .lst ((ms.map Int.ofNat).map V.int))
  rw [← map_ofNat] at hq1' hq2' k16 k17 ⊢
  refine ⟨_, _, .lst (SqL.of hq1') (dpints ms), .lst (SqL.of hq2') (dpints ms), msn.shp (by decide), msn.shp (by decide), _, rfl, iteFd (by rw [eqv_dec msn.lay]; rfl) ?_⟩
  have k67 := k16.trans' k17
  refine ⟨_, rfl, _, rfl, Fr.map Int.ofNat, run.map Int.ofNat, .lst (SqL.of (k67 _ _ h15)) (dpI Fr), .lst (SqL.of (k67 _ _ hr15)) (dpI run), _, rfl, iteFd (least_lex lK rk9 (full9 rfl)) ?_⟩
  obtain ⟨σ3, rS3, rs3⟩ := runS_of c (x := x) (by omega) lK.run (RS.begin c)
  obtain rfl := (rs3.one_end c fK rs9 (full9 rfl)).2
  have s17' := s15'.trans' k67
  have su17 := su0.keep (Tups.of ((k11.trans' k23).trans' (s14.trans' (s15.trans' k67))))
  refine ⟨_, rfl, _, rfl, _, rfl, y, L15, .non, x, Fr, σ3, none, ts, ps, rfl, yk9.keep (NL.of s17'), by omega, k67 _ _ h15, .none, rS3, fun H18 v18 s18 sv18 => ⟨_, rfl, staD σ3, staD σ3, sv18.dp, (su17.keep (Tups.of s18)).dp, nS.shp (by decide), nS.shp (by decide), _, rfl, iteFd (by rw [eqv_dec nS.lay]; rfl) ?_⟩⟩
  have s18' := s17'.trans' s18
  have p18 := p9.same s18'
  have su18 := su17.keep (Tups.of s18)
  have yk18 := yk9.keep (NL.of s18')
  have hr18 := s18' _ _ hr9
  clear su17 s17' k67 hq1' hq2' k16 k17 h15 s15' s15 hr15 s14' s14 s13 k23 k12 k13 k11 s10 hT9 sv9 sv18 s18' s18 hr9 p9 yk9
  refine ⟨_, rfl, _, rfl, _, rfl, sz rfl, fun b1 hb1 => ?_⟩
  have k19 := same_new hb1 (.tup [.int 3])
  have yk19 := yk18.keep (NL.of k19)
  obtain ⟨dx, _, _, _, _, _, _, hy19, _⟩ := yk19.ya.ob
  refine ⟨_, rfl, y, dx, _, rfl, hy19, y, ts, ps, rfl, yk19.ya, fun p20 ws hp20 pws => ?_⟩
  have k20 := same_new hp20 (.lst ws)
  refine ⟨_, _, rfl, .inl (SqL.of upd_same), ?_⟩
  have lw := paired_len2 pws
  have lp : (srt ps).length = ps.length := (srt_perm ps).length_eq
  have mp := yo.mp
  refine repA_of (k20 _ _ upd_same) (by omega) fun H21 Z s21 hZ => ?_
  have s21' := k19.trans' (k20.trans' s21)
  have hZ' : H21 Z = some (.tup (nV (List.replicate ws.length 3))) := by rw [hZ]; unfold nV; rw [List.map_replicate]; rfl
  refine ⟨p, y, .ref Z, x, some (List.replicate ws.length 3), t, ts, ps, rfl, p18.same s21', yk18.keep (NL.of s21'), c, by omega, ⟨⟨Z, rfl, hZ'⟩, by show (List.replicate _ _).length = _; rw [List.length_replicate]; exact lw, fun z hz => by rw [List.eq_of_mem_replicate hz]; exact ⟨by decide, by decide⟩⟩, fun H22 T22 L22 v22 run2 k2 σ2 kp22 p22 hL22 hT22 hr22 sv22 rs22 rk22 _ => ?_⟩
  have nl22 := (NL.of s21').trans ((p18.same s21').nl kp22)
  have hr22' := kp22 _ _ nL9 (s21' _ _ hr18)
  have su22 := su18.keep nl22.tups
  have yk22 := yk18.keep nl22
  obtain ⟨⟨b, eb, epre⟩, eqs⟩ := rs9.part c (full9 rfl) rs22
  have b8 : b.length ≤ 8000 := by rw [epre, List.length_take]; omega
  have tb := nice_t1 b8
  refine ⟨_, _, rfl, SqT.of hT22, rfl, _, _, rfl, _, _, rfl, rfl, ?_⟩
  refine ⟨_, rfl, _, _, rfl, .inl (SqL.of hr22), _, rfl, _, _, rfl, .inl (SqL.of hr22'), rfl, _, rfl, ?_⟩
  rcases Nat.decEq run2.length run.length with e | e
  refine iteFd (by rw [dec_int, nV_len, nV_len]; exact decide_eq_false (fun z => e (by omega))) (iteF ?_)
  rotate_left
  have h1 := rk22.sum
  have h2 := rk9.sum
  obtain rfl := eqs (by omega)
  refine iteTd (by rw [dec_int, nV_len, nV_len]; exact decide_eq_true (by omega)) ⟨_, rfl, _, rfl, staD σ2, staD σ2, sv22.dp, su22.dp, nS.shp (by decide), nS.shp (by decide), _, rfl, iteFd (by rw [eqv_dec nS.lay]; rfl) ?_⟩
  all_goals
    obtain ⟨f0, f1, f2, f3, rfl, m1, m2, m3, m4⟩ := sv22
    rw [eb] at m4
    refine ⟨_, rfl, _, rfl, _, _, _, _, rfl, rfl, SqT.of m1, atI_nat (i := 3) rfl, _, _, _, _, rfl, rfl, SqT.of m4, atI_nat (i := 0) rfl, _, rfl, by rw [tx_len]; exact Nat.le_trans b8 (by decide), _, rfl, _, rfl, by rw [tx_len]; exact Nat.le_trans due5 (by decide), ?_⟩
    rw [tx_len, cut_to, ← epre]
    refine ⟨_, rfl, _, _, _, _, rfl, rfl, SqT.of m1, atI_nat (i := 3) rfl, _, rfl, sz rfl, fun c1 hc1 => ?_⟩
    have k23 := same_new hc1 (.tup [.str (tx b)])
    refine ⟨.tuple [.str (tx b)], .tuple [.str (tx b)], .tup (SqT.of (k23 _ _ m4)) (.cons (.str _) .nil), .tup (SqT.of upd_same) (.cons (.str _) .nil), tb.shp (by decide), tb.shp (by decide), _, rfl, iteTd (eqv_dec tb.lay) ?_⟩
    refine ⟨_, rfl, rfl, _, rfl, _, rfl, _, rfl, p, _, rfl, p22.same k23, by decide, by decide, fun d2 H24 d20 d21 kp24 p24 => ?_⟩
    have e2 : d2 = ((d2.toNat : Nat) : Int) := (Int.toNat_of_nonneg d20).symm
    refine ⟨_, rfl, _, rfl, by rw [tx_len]; exact Nat.le_trans (Nat.le_trans x5 (by decide)) (show 8000 ≤ sizeLine by decide), ?_⟩
    rw [e2, cut_to]
    generalize d2.toNat = d3
    have x5' : (x.take d3).length ≤ 5 := by rw [List.length_take]; omega
    have hb' := hbx _ x5'
    obtain ⟨Fr', kF', σF', fS', lK', fK', rF'⟩ := finS_of c (x := x.take d3) (by omega) _ (RS.begin c) (Nat.le_refl _)
    obtain ⟨eR', eF'⟩ := rF'.at_end c fK'
    have lF' : Fr'.length ≤ 160 := by
      have h1 := lK'.run.sum
      have h2 := rF'.sum c
      rw [zeros_sum] at h1
      omega
    refine ⟨y, x.take d3, σF', Fr', ts, ps, rfl, yk22.keep ((NL.of k23).trans ((p22.same k23).nl kp24)), by omega, fS', by omega, fun H25 L25 s25 hL25 h25 => ?_⟩
    rw [eF'] at h25
    refine ⟨_, _, _, _, rfl, rfl, SqL.of h25, atI_nat (i := 0) rfl, _, _, rfl, rfl, ?_⟩
    rw [starts_tx]
    have pre : flow t (x.take d3) <+: flow t x := by
      have := flow_pre t (x.take d3) (x.drop d3)
      rw [List.take_append_drop] at this
      exact this
    rw [decide_eq_true pre]
    exact q _
end
end FY


set_option Elab.async false
set_option linter.all false
set_option maxRecDepth 100000
set_option maxHeartbeats 4000000
namespace FY
open PySem L2 FYR
def spLaw (K : PySem.W.Frag) : Sp := fun vs H Q _ => ∃ (a : Addr) (ns : List Int), vs = [.ref a] ∧ SqL K H a (ns.map V.int) ∧ ∀ H', Q (.bl true) H'
section
variable {P : Program} {w : World} {K : PySem.W.Frag} {mg : Str → Option Value} {base : Heap} {aS a1 a2 aL aT : Addr} {f : Addr} {fd : FuncData} {C CD CY : Addr} {mc : Value}
abbrev s_is_begin : Stmt := top 46
abbrev N_is_begin : List Str := ["yard", "value", "part", "standing", "station", "text"]
theorem sc_is_begin : FnScope N_is_begin ["yard", "value"] (defScope s_is_begin) := ⟨rfl, rfl, rfl, by decide +kernel, rfl, by decide +kernel, by decide +kernel⟩
theorem ok_is_begin (F : Fun K "is_begin" "is_begin" s_is_begin f fd) : FnOk P w K mg base CX0 1 f fd ["yard", "value"] spNever :=
  F.ok sc_is_begin (fun vs H Q E h => h.1) (fun cdv A outer s H vs Q E hr h => h.2.elim)
abbrev s_law : Stmt := top 119
abbrev N_law : List Str := ["_law_script"]
theorem sc_law : FnScope N_law ["_law_script"] (defScope s_law) := ⟨rfl, rfl, rfl, by decide +kernel, rfl, by decide +kernel, by decide +kernel⟩
theorem ok_law (F : Fun K "law" "law" s_law f fd) (c__law_pot : C8.Cal P w K mg base 1 "_law_pot" (spPot K) []) (c__law_right : C8.Cal P w K mg base 31 "_law_right" spRt []) : FnOk P w K mg base CX0 32 f fd ["_law_script"] (spLaw K) := by
  refine F.ok sc_law (fun vs H Q E h => ?_) (fun cdv A outer s0 H vs Q E hr h => ?_)
  · obtain ⟨a, ns, rfl, _⟩ := h
    rfl
  obtain ⟨a, ns, rfl, hS, q⟩ := h
  refine ⟨_, (pss_one (ps_ret (C8.pe_c c__law_right hr (by decide) rfl (pa_cons (C8.pe_c c__law_pot hr (by decide) rfl (pa_cons (pv 0) (pa_cons pe_int pa_nil))) pa_nil)))), ?_⟩
  exact ⟨_, rfl, a, ns, 0, rfl, hS, by decide, by decide, fun H1 p s1 hp po => ⟨p, rfl, po, q⟩⟩
end
end FY


set_option Elab.async false
set_option linter.all false
set_option maxRecDepth 100000
set_option maxHeartbeats 0
namespace FY
open PySem L2 FYR
theorem all_mk {P : Program} {w : World} {K : PySem.W.Frag} {mg : Str → Option Value} {base : Heap} {aS a1 a2 aL aT : Addr} {mc : Value}
    {CY : Addr}
    {CD : Addr}
    {C : Addr}
    {f_is_sign : Addr} {fd_is_sign : FuncData}
    {f_is_text : Addr} {fd_is_text : FuncData}
    {f_is_text_of : Addr} {fd_is_text_of : FuncData}
    {f_want_stream : Addr} {fd_want_stream : FuncData}
    {f_parts_of : Addr} {fd_parts_of : FuncData}
    {f_has_shape : Addr} {fd_has_shape : FuncData}
    {f_is_term : Addr} {fd_is_term : FuncData}
    {f_want_term : Addr} {fd_want_term : FuncData}
    {f_half_of : Addr} {fd_half_of : FuncData}
    {f_turned : Addr} {fd_turned : FuncData}
    {f_changes_of : Addr} {fd_changes_of : FuncData}
    {f_counts_of : Addr} {fd_counts_of : FuncData}
    {f_of_one : Addr} {fd_of_one : FuncData}
    {f_of_two : Addr} {fd_of_two : FuncData}
    {f_flow_by : Addr} {fd_flow_by : FuncData}
    {f_flow_of : Addr} {fd_flow_of : FuncData}
    {f_law_single : Addr} {fd_law_single : FuncData}
    {f_law_flow : Addr} {fd_law_flow : FuncData}
    {f_law_draw : Addr} {fd_law_draw : FuncData}
    {f_law_pick : Addr} {fd_law_pick : FuncData}
    {f_law_pot : Addr} {fd_law_pot : FuncData}
    {f_law_term : Addr} {fd_law_term : FuncData}
    {f_law_stream : Addr} {fd_law_stream : FuncData}
    {f_is_integer : Addr} {fd_is_integer : FuncData}
    {f_is_count : Addr} {fd_is_count : FuncData}
    {f_is_below : Addr} {fd_is_below : FuncData}
    {f_is_list : Addr} {fd_is_list : FuncData}
    {f_is_row : Addr} {fd_is_row : FuncData}
    {f_are_read : Addr} {fd_are_read : FuncData}
    {f_is_standing_told : Addr} {fd_is_standing_told : FuncData}
    {f_Station_init : Addr} {fd_Station_init : FuncData}
    {f_row : Addr} {fd_row : FuncData}
    {f_kept : Addr} {fd_kept : FuncData}
    {f_one_way : Addr} {fd_one_way : FuncData}
    {f_rows_of : Addr} {fd_rows_of : FuncData}
    {f_late_rows : Addr} {fd_late_rows : FuncData}
    {f_station_of : Addr} {fd_station_of : FuncData}
    {f_outer_ins : Addr} {fd_outer_ins : FuncData}
    {f_Draft_init : Addr} {fd_Draft_init : FuncData}
    {f_Draft_add : Addr} {fd_Draft_add : FuncData}
    {f_Draft_copies : Addr} {fd_Draft_copies : FuncData}
    {f_parts : Addr} {fd_parts : FuncData}
    {f_want_stations : Addr} {fd_want_stations : FuncData}
    {f_is_pipe : Addr} {fd_is_pipe : FuncData}
    {f_want_pipes : Addr} {fd_want_pipes : FuncData}
    {f_free_lines : Addr} {fd_free_lines : FuncData}
    {f_Yard_init : Addr} {fd_Yard_init : FuncData}
    {f_Yard_pipes : Addr} {fd_Yard_pipes : FuncData}
    {p_Yard_pipes : Addr}
    {f_Yard_len : Addr} {fd_Yard_len : FuncData}
    {f_Draft_made : Addr} {fd_Draft_made : FuncData}
    {f_compiled : Addr} {fd_compiled : FuncData}
    {f_text_at : Addr} {fd_text_at : FuncData}
    {f_place_of : Addr} {fd_place_of : FuncData}
    {f_begun : Addr} {fd_begun : FuncData}
    {f_beat_row : Addr} {fd_beat_row : FuncData}
    {f_has_room : Addr} {fd_has_room : FuncData}
    {f_is_possible : Addr} {fd_is_possible : FuncData}
    {f_possible : Addr} {fd_possible : FuncData}
    {f_after_beat : Addr} {fd_after_beat : FuncData}
    {f_want_station : Addr} {fd_want_station : FuncData}
    {f_are_sizes : Addr} {fd_are_sizes : FuncData}
    {f_want_sizes : Addr} {fd_want_sizes : FuncData}
    {f_Station_len : Addr} {fd_Station_len : FuncData}
    {f_is_state : Addr} {fd_is_state : FuncData}
    {f_want_state : Addr} {fd_want_state : FuncData}
    {f_begin_of : Addr} {fd_begin_of : FuncData}
    {f_can_be_done : Addr} {fd_can_be_done : FuncData}
    {f_done : Addr} {fd_done : FuncData}
    {f_fault_of : Addr} {fd_fault_of : FuncData}
    {f_behind_run : Addr} {fd_behind_run : FuncData}
    {f_state_behind : Addr} {fd_state_behind : FuncData}
    {f_is_full : Addr} {fd_is_full : FuncData}
    {f_finished : Addr} {fd_finished : FuncData}
    {f_full_run : Addr} {fd_full_run : FuncData}
    {f_end : Addr} {fd_end : FuncData}
    {f_flows : Addr} {fd_flows : FuncData}
    {f_law_led : Addr} {fd_law_led : FuncData}
    {f_law_right : Addr} {fd_law_right : FuncData}
    {f_is_begin : Addr} {fd_is_begin : FuncData}
    {f_law : Addr} {fd_law : FuncData}
    {f_whole : Addr} {fd_whole : FuncData}
    (T : Txt K mg aS a1 a2) (U : Twos K mg aT) (L : Lin K w mg aL) (LT : LinT K aL) (S : StC K mg C) (D : DrC K mg CD) (Y : YdF K CY) (Y0 : YdC K mg CY mc) (IS : IsaC K C)
    (F_is_sign : Fun K "is_sign" "is_sign" s_is_sign f_is_sign fd_is_sign)
    (m_is_sign : mg "is_sign" = some (.ref f_is_sign))
    (F_is_text : Fun K "is_text" "is_text" s_is_text f_is_text fd_is_text)
    (m_is_text : mg "is_text" = some (.ref f_is_text))
    (F_is_text_of : Fun K "is_text_of" "is_text_of" s_is_text_of f_is_text_of fd_is_text_of)
    (m_is_text_of : mg "is_text_of" = some (.ref f_is_text_of))
    (F_want_stream : Fun K "want_stream" "want_stream" s_want_stream f_want_stream fd_want_stream)
    (m_want_stream : mg "want_stream" = some (.ref f_want_stream))
    (F_parts_of : Fun K "parts_of" "parts_of" s_parts_of f_parts_of fd_parts_of)
    (m_parts_of : mg "parts_of" = some (.ref f_parts_of))
    (F_has_shape : Fun K "has_shape" "has_shape" s_has_shape f_has_shape fd_has_shape)
    (m_has_shape : mg "has_shape" = some (.ref f_has_shape))
    (F_is_term : Fun K "is_term" "is_term" s_is_term f_is_term fd_is_term)
    (m_is_term : mg "is_term" = some (.ref f_is_term))
    (F_want_term : Fun K "want_term" "want_term" s_want_term f_want_term fd_want_term)
    (m_want_term : mg "want_term" = some (.ref f_want_term))
    (F_half_of : Fun K "half_of" "half_of" s_half_of f_half_of fd_half_of)
    (m_half_of : mg "half_of" = some (.ref f_half_of))
    (F_turned : Fun K "turned" "turned" s_turned f_turned fd_turned)
    (m_turned : mg "turned" = some (.ref f_turned))
    (F_changes_of : Fun K "changes_of" "changes_of" s_changes_of f_changes_of fd_changes_of)
    (m_changes_of : mg "changes_of" = some (.ref f_changes_of))
    (F_counts_of : Fun K "counts_of" "counts_of" s_counts_of f_counts_of fd_counts_of)
    (m_counts_of : mg "counts_of" = some (.ref f_counts_of))
    (F_of_one : Fun K "of_one" "of_one" s_of_one f_of_one fd_of_one)
    (m_of_one : mg "of_one" = some (.ref f_of_one))
    (F_of_two : Fun K "of_two" "of_two" s_of_two f_of_two fd_of_two)
    (m_of_two : mg "of_two" = some (.ref f_of_two))
    (F_flow_by : Fun K "flow_by" "flow_by" s_flow_by f_flow_by fd_flow_by)
    (m_flow_by : mg "flow_by" = some (.ref f_flow_by))
    (F_flow_of : Fun K "flow_of" "flow_of" s_flow_of f_flow_of fd_flow_of)
    (m_flow_of : mg "flow_of" = some (.ref f_flow_of))
    (F_law_single : Fun K "_law_single" "_law_single" s_law_single f_law_single fd_law_single)
    (m_law_single : mg "_law_single" = some (.ref f_law_single))
    (F_law_flow : Fun K "_law_flow" "_law_flow" s_law_flow f_law_flow fd_law_flow)
    (m_law_flow : mg "_law_flow" = some (.ref f_law_flow))
    (F_law_draw : Fun K "_law_draw" "_law_draw" s_law_draw f_law_draw fd_law_draw)
    (m_law_draw : mg "_law_draw" = some (.ref f_law_draw))
    (F_law_pick : Fun K "_law_pick" "_law_pick" s_law_pick f_law_pick fd_law_pick)
    (m_law_pick : mg "_law_pick" = some (.ref f_law_pick))
    (F_law_pot : Fun K "_law_pot" "_law_pot" s_law_pot f_law_pot fd_law_pot)
    (m_law_pot : mg "_law_pot" = some (.ref f_law_pot))
    (F_law_term : Fun K "_law_term" "_law_term" s_law_term f_law_term fd_law_term)
    (m_law_term : mg "_law_term" = some (.ref f_law_term))
    (F_law_stream : Fun K "_law_stream" "_law_stream" s_law_stream f_law_stream fd_law_stream)
    (m_law_stream : mg "_law_stream" = some (.ref f_law_stream))
    (F_is_integer : Fun K "is_integer" "is_integer" s_is_integer f_is_integer fd_is_integer)
    (m_is_integer : mg "is_integer" = some (.ref f_is_integer))
    (F_is_count : Fun K "is_count" "is_count" s_is_count f_is_count fd_is_count)
    (m_is_count : mg "is_count" = some (.ref f_is_count))
    (F_is_below : Fun K "is_below" "is_below" s_is_below f_is_below fd_is_below)
    (m_is_below : mg "is_below" = some (.ref f_is_below))
    (F_is_list : Fun K "is_list" "is_list" s_is_list f_is_list fd_is_list)
    (m_is_list : mg "is_list" = some (.ref f_is_list))
    (F_is_row : Fun K "is_row" "is_row" s_is_row f_is_row fd_is_row)
    (m_is_row : mg "is_row" = some (.ref f_is_row))
    (F_are_read : Fun K "are_read" "are_read" s_are_read f_are_read fd_are_read)
    (m_are_read : mg "are_read" = some (.ref f_are_read))
    (F_is_standing_told : Fun K "is_standing_told" "is_standing_told" s_is_standing_told f_is_standing_told fd_is_standing_told)
    (m_is_standing_told : mg "is_standing_told" = some (.ref f_is_standing_told))
    (F_Station_init : Fun K "__init__" "Station.__init__" s_Station___init__ f_Station_init fd_Station_init)
    (mk_Station_init' : Mk K C f_Station_init)
    (F_row : Fun K "row" "row" s_row f_row fd_row)
    (m_row : mg "row" = some (.ref f_row))
    (F_kept : Fun K "kept" "kept" s_kept f_kept fd_kept)
    (m_kept : mg "kept" = some (.ref f_kept))
    (F_one_way : Fun K "one_way" "one_way" s_one_way f_one_way fd_one_way)
    (m_one_way : mg "one_way" = some (.ref f_one_way))
    (F_rows_of : Fun K "rows_of" "rows_of" s_rows_of f_rows_of fd_rows_of)
    (m_rows_of : mg "rows_of" = some (.ref f_rows_of))
    (F_late_rows : Fun K "late_rows" "late_rows" s_late_rows f_late_rows fd_late_rows)
    (m_late_rows : mg "late_rows" = some (.ref f_late_rows))
    (F_station_of : Fun K "station_of" "station_of" s_station_of f_station_of fd_station_of)
    (m_station_of : mg "station_of" = some (.ref f_station_of))
    (F_outer_ins : Fun K "outer_ins" "outer_ins" s_outer_ins f_outer_ins fd_outer_ins)
    (m_outer_ins : mg "outer_ins" = some (.ref f_outer_ins))
    (F_Draft_init : Fun K "__init__" "Draft.__init__" s_Draft___init__ f_Draft_init fd_Draft_init)
    (mk_Draft_init' : Mk K CD f_Draft_init)
    (F_Draft_add : Fun K "add" "Draft.add" s_Draft_add f_Draft_add fd_Draft_add)
    (me_Draft_add : Meth K CD "add" f_Draft_add)
    (F_Draft_copies : Fun K "copies" "Draft.copies" s_Draft_copies f_Draft_copies fd_Draft_copies)
    (me_Draft_copies : Meth K CD "copies" f_Draft_copies)
    (F_parts : Fun K "part" "Draft.part" s_Draft_part f_parts fd_parts)
    (me_parts : Meth K CD "part" f_parts)
    (F_want_stations : Fun K "want_stations" "want_stations" s_want_stations f_want_stations fd_want_stations)
    (m_want_stations : mg "want_stations" = some (.ref f_want_stations))
    (F_is_pipe : Fun K "is_pipe" "is_pipe" s_is_pipe f_is_pipe fd_is_pipe)
    (m_is_pipe : mg "is_pipe" = some (.ref f_is_pipe))
    (F_want_pipes : Fun K "want_pipes" "want_pipes" s_want_pipes f_want_pipes fd_want_pipes)
    (m_want_pipes : mg "want_pipes" = some (.ref f_want_pipes))
    (F_free_lines : Fun K "free_lines" "free_lines" s_free_lines f_free_lines fd_free_lines)
    (m_free_lines : mg "free_lines" = some (.ref f_free_lines))
    (F_Yard_init : FunD K "__init__" "Yard.__init__" (defArgs s_Yard___init__) (defBody s_Yard___init__) (defScope s_Yard___init__) [.non] [] f_Yard_init fd_Yard_init)
    (mk_Yard_init' : Mk K CY f_Yard_init)
    (F_Yard_pipes : Fun K "pipes" "Yard.pipes" s_Yard_pipes f_Yard_pipes fd_Yard_pipes)
    (p_Yard_pipes' : PropOf K CY "pipes" p_Yard_pipes f_Yard_pipes)
    (F_Yard_len : Fun K "__len__" "Yard.__len__" s_Yard___len__ f_Yard_len fd_Yard_len)
    (me_Yard_len : Meth K CY "__len__" f_Yard_len)
    (F_Draft_made : Fun K "made" "Draft.made" s_Draft_made f_Draft_made fd_Draft_made)
    (me_Draft_made : Meth K CD "made" f_Draft_made)
    (F_compiled : Fun K "compiled" "compiled" s_compiled f_compiled fd_compiled)
    (m_compiled : mg "compiled" = some (.ref f_compiled))
    (F_text_at : Fun K "text_at" "text_at" s_text_at f_text_at fd_text_at)
    (m_text_at : mg "text_at" = some (.ref f_text_at))
    (F_place_of : Fun K "place_of" "place_of" s_place_of f_place_of fd_place_of)
    (m_place_of : mg "place_of" = some (.ref f_place_of))
    (F_begun : Fun K "begun" "begun" s_begun f_begun fd_begun)
    (m_begun : mg "begun" = some (.ref f_begun))
    (F_beat_row : Fun K "beat_row" "beat_row" s_beat_row f_beat_row fd_beat_row)
    (m_beat_row : mg "beat_row" = some (.ref f_beat_row))
    (F_has_room : Fun K "has_room" "has_room" s_has_room f_has_room fd_has_room)
    (m_has_room : mg "has_room" = some (.ref f_has_room))
    (F_is_possible : Fun K "is_possible" "is_possible" s_is_possible f_is_possible fd_is_possible)
    (m_is_possible : mg "is_possible" = some (.ref f_is_possible))
    (F_possible : Fun K "possible" "possible" s_possible f_possible fd_possible)
    (m_possible : mg "possible" = some (.ref f_possible))
    (F_after_beat : Fun K "after_beat" "after_beat" s_after_beat f_after_beat fd_after_beat)
    (m_after_beat : mg "after_beat" = some (.ref f_after_beat))
    (F_want_station : Fun K "want_station" "want_station" s_want_station f_want_station fd_want_station)
    (m_want_station : mg "want_station" = some (.ref f_want_station))
    (F_are_sizes : Fun K "are_sizes" "are_sizes" s_are_sizes f_are_sizes fd_are_sizes)
    (m_are_sizes : mg "are_sizes" = some (.ref f_are_sizes))
    (F_want_sizes : Fun K "want_sizes" "want_sizes" s_want_sizes f_want_sizes fd_want_sizes)
    (m_want_sizes : mg "want_sizes" = some (.ref f_want_sizes))
    (F_Station_len : Fun K "__len__" "Station.__len__" s_Station___len__ f_Station_len fd_Station_len)
    (me_Station_len : Meth K C "__len__" f_Station_len)
    (F_is_state : Fun K "is_state" "is_state" s_is_state f_is_state fd_is_state)
    (m_is_state : mg "is_state" = some (.ref f_is_state))
    (F_want_state : Fun K "want_state" "want_state" s_want_state f_want_state fd_want_state)
    (m_want_state : mg "want_state" = some (.ref f_want_state))
    (F_begin_of : Fun K "begin_of" "begin_of" s_begin_of f_begin_of fd_begin_of)
    (m_begin_of : mg "begin_of" = some (.ref f_begin_of))
    (F_can_be_done : FunD K "can_be_done" "can_be_done" (defArgs s_can_be_done) (defBody s_can_be_done) (defScope s_can_be_done) [.non] [] f_can_be_done fd_can_be_done)
    (m_can_be_done : mg "can_be_done" = some (.ref f_can_be_done))
    (F_done : FunD K "done" "done" (defArgs s_done) (defBody s_done) (defScope s_done) [.non] [] f_done fd_done)
    (m_done : mg "done" = some (.ref f_done))
    (F_fault_of : Fun K "fault_of" "fault_of" s_fault_of f_fault_of fd_fault_of)
    (m_fault_of : mg "fault_of" = some (.ref f_fault_of))
    (F_behind_run : Fun K "behind_run" "behind_run" s_behind_run f_behind_run fd_behind_run)
    (m_behind_run : mg "behind_run" = some (.ref f_behind_run))
    (F_state_behind : FunD K "state_behind" "state_behind" (defArgs s_state_behind) (defBody s_state_behind) (defScope s_state_behind) [.non] [] f_state_behind fd_state_behind)
    (m_state_behind : mg "state_behind" = some (.ref f_state_behind))
    (F_is_full : FunD K "is_full" "is_full" (defArgs s_is_full) (defBody s_is_full) (defScope s_is_full) [.non] [] f_is_full fd_is_full)
    (m_is_full : mg "is_full" = some (.ref f_is_full))
    (F_finished : FunD K "finished" "finished" (defArgs s_finished) (defBody s_finished) (defScope s_finished) [.int (20000 : Nat)] [] f_finished fd_finished)
    (m_finished : mg "finished" = some (.ref f_finished))
    (F_full_run : FunD K "full_run" "full_run" (defArgs s_full_run) (defBody s_full_run) (defScope s_full_run) [.non] [] f_full_run fd_full_run)
    (m_full_run : mg "full_run" = some (.ref f_full_run))
    (F_end : FunD K "end" "end" (defArgs s_end) (defBody s_end) (defScope s_end) [.non] [] f_end fd_end)
    (m_end : mg "end" = some (.ref f_end))
    (F_flows : Fun K "flows" "flows" s_flows f_flows fd_flows)
    (m_flows : mg "flows" = some (.ref f_flows))
    (F_law_led : Fun K "_law_led" "_law_led" s_law_led f_law_led fd_law_led)
    (m_law_led : mg "_law_led" = some (.ref f_law_led))
    (F_law_right : Fun K "_law_right" "_law_right" s_law_right f_law_right fd_law_right)
    (m_law_right : mg "_law_right" = some (.ref f_law_right))
    (F_is_begin : Fun K "is_begin" "is_begin" s_is_begin f_is_begin fd_is_begin)
    (m_is_begin : mg "is_begin" = some (.ref f_is_begin))
    (F_law : Fun K "law" "law" s_law f_law fd_law)
    (m_law : mg "law" = some (.ref f_law))
    (F_whole : Fun K "whole" "Draft.whole" s_Draft_whole f_whole fd_whole)
    (me_whole : Meth K CD "whole" f_whole)
    (clC : Cls K C)
    (g_Station : mg "Station" = some (.ref C))
    (clCD : Cls K CD)
    (g_Draft : mg "Draft" = some (.ref CD))
    (clCY : Cls K CY)
    (g_Yard : mg "Yard" = some (.ref CY)) :
    FnOk P w K mg base CX0 32 f_law fd_law ["_law_script"] (spLaw K) := by
  have b_is_sign := F_is_sign.binds (ps := ["value"]) fun _ _ _ _ _ _ us hl => match us, hl with | [_], _ => rfl
  have b_is_text := F_is_text.binds (ps := ["value"]) fun _ _ _ _ _ _ us hl => match us, hl with | [_], _ => rfl
  have b_is_text_of := F_is_text_of.binds (ps := ["value", "most"]) fun _ _ _ _ _ _ us hl => match us, hl with | [_, _], _ => rfl
  have b_want_stream := F_want_stream.binds (ps := ["stream"]) fun _ _ _ _ _ _ us hl => match us, hl with | [_], _ => rfl
  have b_parts_of := F_parts_of.binds (ps := ["term"]) fun _ _ _ _ _ _ us hl => match us, hl with | [_], _ => rfl
  have b_has_shape := F_has_shape.binds (ps := ["value"]) fun _ _ _ _ _ _ us hl => match us, hl with | [_], _ => rfl
  have b_is_term := F_is_term.binds (ps := ["value"]) fun _ _ _ _ _ _ us hl => match us, hl with | [_], _ => rfl
  have b_want_term := F_want_term.binds (ps := ["value"]) fun _ _ _ _ _ _ us hl => match us, hl with | [_], _ => rfl
  have b_half_of := F_half_of.binds (ps := ["flow"]) fun _ _ _ _ _ _ us hl => match us, hl with | [_], _ => rfl
  have b_turned := F_turned.binds (ps := ["sign"]) fun _ _ _ _ _ _ us hl => match us, hl with | [_], _ => rfl
  have b_changes_of := F_changes_of.binds (ps := ["flow"]) fun _ _ _ _ _ _ us hl => match us, hl with | [_], _ => rfl
  have b_counts_of := F_counts_of.binds (ps := ["flow"]) fun _ _ _ _ _ _ us hl => match us, hl with | [_], _ => rfl
  have b_of_one := F_of_one.binds (ps := ["term", "flow"]) fun _ _ _ _ _ _ us hl => match us, hl with | [_, _], _ => rfl
  have b_of_two := F_of_two.binds (ps := ["term", "one", "other"]) fun _ _ _ _ _ _ us hl => match us, hl with | [_, _, _], _ => rfl
  have b_flow_by := F_flow_by.binds (ps := ["term", "stream"]) fun _ _ _ _ _ _ us hl => match us, hl with | [_, _], _ => rfl
  have b_flow_of := F_flow_of.binds (ps := ["term", "stream"]) fun _ _ _ _ _ _ us hl => match us, hl with | [_, _], _ => rfl
  have b_law_single := F_law_single.binds (ps := ["_law_term_here", "_law_flow_here"]) fun _ _ _ _ _ _ us hl => match us, hl with | [_, _], _ => rfl
  have b_law_flow := F_law_flow.binds (ps := ["_law_term_here", "_law_stream_here"]) fun _ _ _ _ _ _ us hl => match us, hl with | [_, _], _ => rfl
  have b_law_draw := F_law_draw.binds (ps := ["_law_pot_here", "_law_size"]) fun _ _ _ _ _ _ us hl => match us, hl with | [_, _], _ => rfl
  have b_law_pick := F_law_pick.binds (ps := ["_law_pot_here", "_law_some"]) fun _ _ _ _ _ _ us hl => match us, hl with | [_, _], _ => rfl
  have b_law_pot := F_law_pot.binds (ps := ["_law_script", "_law_k"]) fun _ _ _ _ _ _ us hl => match us, hl with | [_, _], _ => rfl
  have b_law_term := F_law_term.binds (ps := ["_law_pot_here", "_law_most"]) fun _ _ _ _ _ _ us hl => match us, hl with | [_, _], _ => rfl
  have b_law_stream := F_law_stream.binds (ps := ["_law_pot_here", "_law_most"]) fun _ _ _ _ _ _ us hl => match us, hl with | [_, _], _ => rfl
  have b_is_integer := F_is_integer.binds (ps := ["value"]) fun _ _ _ _ _ _ us hl => match us, hl with | [_], _ => rfl
  have b_is_count := F_is_count.binds (ps := ["value"]) fun _ _ _ _ _ _ us hl => match us, hl with | [_], _ => rfl
  have b_is_below := F_is_below.binds (ps := ["value", "limit"]) fun _ _ _ _ _ _ us hl => match us, hl with | [_, _], _ => rfl
  have b_is_list := F_is_list.binds (ps := ["value"]) fun _ _ _ _ _ _ us hl => match us, hl with | [_], _ => rfl
  have b_is_row := F_is_row.binds (ps := ["value", "outs", "many"]) fun _ _ _ _ _ _ us hl => match us, hl with | [_, _, _], _ => rfl
  have b_are_read := F_are_read.binds (ps := ["value", "ins"]) fun _ _ _ _ _ _ us hl => match us, hl with | [_, _], _ => rfl
  have b_is_standing_told := F_is_standing_told.binds (ps := ["value", "ins", "outs", "many"]) fun _ _ _ _ _ _ us hl => match us, hl with | [_, _, _, _], _ => rfl
  have b_Station_init := F_Station_init.binds (ps := ["self", "ins", "outs", "standings"]) fun _ _ _ _ _ _ us hl => match us, hl with | [_, _, _, _], _ => rfl
  have b_row := F_row.binds (ps := ["text", "goal"]) fun _ _ _ _ _ _ us hl => match us, hl with | [_, _], _ => rfl
  have b_kept := F_kept.binds (ps := ["two"]) fun _ _ _ _ _ _ us hl => match us, hl with | [_], _ => rfl
  have b_one_way := F_one_way.binds (ps := ["rows_now"]) fun _ _ _ _ _ _ us hl => match us, hl with | [_], _ => rfl
  have b_rows_of := F_rows_of.binds (ps := ["term"]) fun _ _ _ _ _ _ us hl => match us, hl with | [_], _ => rfl
  have b_late_rows := F_late_rows.binds (ps := ["sign"]) fun _ _ _ _ _ _ us hl => match us, hl with | [_], _ => rfl
  have b_station_of := F_station_of.binds (ps := ["term"]) fun _ _ _ _ _ _ us hl => match us, hl with | [_], _ => rfl
  have b_outer_ins := F_outer_ins.binds (ps := ["term"]) fun _ _ _ _ _ _ us hl => match us, hl with | [_], _ => rfl
  have b_Draft_init := F_Draft_init.binds (ps := ["self"]) fun _ _ _ _ _ _ us hl => match us, hl with | [_], _ => rfl
  have b_Draft_add := F_Draft_add.binds (ps := ["self", "station", "lines"]) fun _ _ _ _ _ _ us hl => match us, hl with | [_, _, _], _ => rfl
  have b_Draft_copies := F_Draft_copies.binds (ps := ["self", "line", "many"]) fun _ _ _ _ _ _ us hl => match us, hl with | [_, _, _], _ => rfl
  have b_parts := F_parts.binds (ps := ["self", "term", "lines"]) fun _ _ _ _ _ _ us hl => match us, hl with | [_, _, _], _ => rfl
  have b_want_stations := F_want_stations.binds (ps := ["stations"]) fun _ _ _ _ _ _ us hl => match us, hl with | [_], _ => rfl
  have b_is_pipe := F_is_pipe.binds (ps := ["stations", "value"]) fun _ _ _ _ _ _ us hl => match us, hl with | [_, _], _ => rfl
  have b_want_pipes := F_want_pipes.binds (ps := ["stations", "pipes"]) fun _ _ _ _ _ _ us hl => match us, hl with | [_, _], _ => rfl
  have b_free_lines := F_free_lines.binds (ps := ["stations", "pipes"]) fun _ _ _ _ _ _ us hl => match us, hl with | [_, _], _ => rfl
  obtain ⟨ds_Yard_init, v_Yard_init, bd_Yard_init⟩ := F_Yard_init.binds1 (ps := ["self", "stations", "pipes", "begin"]) 3 0 (List.cons_ne_nil _ _) rfl fun _ _ _ _ _ _ _ us its hl hi => match us, its, hl, hi with | [_, _, _], [_], _, _ => ⟨_, rfl, rfl⟩
  have b_Yard_init := FYH.bindsF (ps := ["self", "stations", "pipes", "begin"]) F_Yard_init (List.cons_ne_nil _ _) fun _ _ _ _ _ _ _ us its hl hi => match us, its, hl, hi with | [_, _, _, _], [_], _, _ => ⟨_, rfl, rfl⟩
  have b_Yard_pipes := F_Yard_pipes.binds (ps := ["self"]) fun _ _ _ _ _ _ us hl => match us, hl with | [_], _ => rfl
  have b_Yard_len := F_Yard_len.binds (ps := ["self"]) fun _ _ _ _ _ _ us hl => match us, hl with | [_], _ => rfl
  have b_Draft_made := F_Draft_made.binds (ps := ["self"]) fun _ _ _ _ _ _ us hl => match us, hl with | [_], _ => rfl
  have b_compiled := F_compiled.binds (ps := ["term"]) fun _ _ _ _ _ _ us hl => match us, hl with | [_], _ => rfl
  have b_text_at := F_text_at.binds (ps := ["yard", "state", "station", "line"]) fun _ _ _ _ _ _ us hl => match us, hl with | [_, _, _, _], _ => rfl
  have b_place_of := F_place_of.binds (ps := ["signs"]) fun _ _ _ _ _ _ us hl => match us, hl with | [_], _ => rfl
  have b_begun := F_begun.binds (ps := ["yard", "stream"]) fun _ _ _ _ _ _ us hl => match us, hl with | [_, _], _ => rfl
  have b_beat_row := F_beat_row.binds (ps := ["yard", "state", "station"]) fun _ _ _ _ _ _ us hl => match us, hl with | [_, _, _], _ => rfl
  have b_has_room := F_has_room.binds (ps := ["yard", "contents", "station", "gives", "sizes"]) fun _ _ _ _ _ _ us hl => match us, hl with | [_, _, _, _, _], _ => rfl
  have b_is_possible := F_is_possible.binds (ps := ["yard", "state", "station", "sizes"]) fun _ _ _ _ _ _ us hl => match us, hl with | [_, _, _, _], _ => rfl
  have b_possible := F_possible.binds (ps := ["yard", "state", "sizes"]) fun _ _ _ _ _ _ us hl => match us, hl with | [_, _, _], _ => rfl
  have b_after_beat := F_after_beat.binds (ps := ["yard", "state", "station"]) fun _ _ _ _ _ _ us hl => match us, hl with | [_, _, _], _ => rfl
  have b_want_station := F_want_station.binds (ps := ["yard", "value"]) fun _ _ _ _ _ _ us hl => match us, hl with | [_, _], _ => rfl
  have b_are_sizes := F_are_sizes.binds (ps := ["yard", "value"]) fun _ _ _ _ _ _ us hl => match us, hl with | [_, _], _ => rfl
  have b_want_sizes := F_want_sizes.binds (ps := ["yard", "sizes"]) fun _ _ _ _ _ _ us hl => match us, hl with | [_, _], _ => rfl
  have b_Station_len := F_Station_len.binds (ps := ["self"]) fun _ _ _ _ _ _ us hl => match us, hl with | [_], _ => rfl
  have b_is_state := F_is_state.binds (ps := ["yard", "value"]) fun _ _ _ _ _ _ us hl => match us, hl with | [_, _], _ => rfl
  have b_want_state := F_want_state.binds (ps := ["yard", "state"]) fun _ _ _ _ _ _ us hl => match us, hl with | [_, _], _ => rfl
  have b_begin_of := F_begin_of.binds (ps := ["yard", "stream"]) fun _ _ _ _ _ _ us hl => match us, hl with | [_, _], _ => rfl
  obtain ⟨ds_can_be_done, v_can_be_done, bd_can_be_done⟩ := F_can_be_done.binds1 (ps := ["yard", "state", "sizes"]) 2 0 (List.cons_ne_nil _ _) rfl fun _ _ _ _ _ _ _ us its hl hi => match us, its, hl, hi with | [_, _], [_], _, _ => ⟨_, rfl, rfl⟩
  have b_can_be_done := FYH.bindsF (ps := ["yard", "state", "sizes"]) F_can_be_done (List.cons_ne_nil _ _) fun _ _ _ _ _ _ _ us its hl hi => match us, its, hl, hi with | [_, _, _], [_], _, _ => ⟨_, rfl, rfl⟩
  obtain ⟨ds_done, v_done, bd_done⟩ := F_done.binds1 (ps := ["yard", "state", "station", "sizes"]) 3 0 (List.cons_ne_nil _ _) rfl fun _ _ _ _ _ _ _ us its hl hi => match us, its, hl, hi with | [_, _, _], [_], _, _ => ⟨_, rfl, rfl⟩
  have b_done := FYH.bindsF (ps := ["yard", "state", "station", "sizes"]) F_done (List.cons_ne_nil _ _) fun _ _ _ _ _ _ _ us its hl hi => match us, its, hl, hi with | [_, _, _, _], [_], _, _ => ⟨_, rfl, rfl⟩
  have b_fault_of := F_fault_of.binds (ps := ["yard", "stream", "value", "sizes"]) fun _ _ _ _ _ _ us hl => match us, hl with | [_, _, _, _], _ => rfl
  have b_behind_run := F_behind_run.binds (ps := ["yard", "stream", "run", "sizes"]) fun _ _ _ _ _ _ us hl => match us, hl with | [_, _, _, _], _ => rfl
  obtain ⟨ds_state_behind, v_state_behind, bd_state_behind⟩ := F_state_behind.binds1 (ps := ["yard", "stream", "run", "sizes"]) 3 0 (List.cons_ne_nil _ _) rfl fun _ _ _ _ _ _ _ us its hl hi => match us, its, hl, hi with | [_, _, _], [_], _, _ => ⟨_, rfl, rfl⟩
  have b_state_behind := FYH.bindsF (ps := ["yard", "stream", "run", "sizes"]) F_state_behind (List.cons_ne_nil _ _) fun _ _ _ _ _ _ _ us its hl hi => match us, its, hl, hi with | [_, _, _, _], [_], _, _ => ⟨_, rfl, rfl⟩
  obtain ⟨ds_is_full, v_is_full, bd_is_full⟩ := F_is_full.binds1 (ps := ["yard", "stream", "run", "sizes"]) 3 0 (List.cons_ne_nil _ _) rfl fun _ _ _ _ _ _ _ us its hl hi => match us, its, hl, hi with | [_, _, _], [_], _, _ => ⟨_, rfl, rfl⟩
  have b_is_full := FYH.bindsF (ps := ["yard", "stream", "run", "sizes"]) F_is_full (List.cons_ne_nil _ _) fun _ _ _ _ _ _ _ us its hl hi => match us, its, hl, hi with | [_, _, _, _], [_], _, _ => ⟨_, rfl, rfl⟩
  obtain ⟨ds_finished, v_finished, bd_finished⟩ := F_finished.binds1 (ps := ["yard", "state", "sizes", "most"]) 3 0 (List.cons_ne_nil _ _) rfl fun _ _ _ _ _ _ _ us its hl hi => match us, its, hl, hi with | [_, _, _], [_], _, _ => ⟨_, rfl, rfl⟩
  have b_finished := FYH.bindsF (ps := ["yard", "state", "sizes", "most"]) F_finished (List.cons_ne_nil _ _) fun _ _ _ _ _ _ _ us its hl hi => match us, its, hl, hi with | [_, _, _, _], [_], _, _ => ⟨_, rfl, rfl⟩
  obtain ⟨ds_full_run, v_full_run, bd_full_run⟩ := F_full_run.binds1 (ps := ["yard", "stream", "sizes"]) 2 0 (List.cons_ne_nil _ _) rfl fun _ _ _ _ _ _ _ us its hl hi => match us, its, hl, hi with | [_, _], [_], _, _ => ⟨_, rfl, rfl⟩
  have b_full_run := FYH.bindsF (ps := ["yard", "stream", "sizes"]) F_full_run (List.cons_ne_nil _ _) fun _ _ _ _ _ _ _ us its hl hi => match us, its, hl, hi with | [_, _, _], [_], _, _ => ⟨_, rfl, rfl⟩
  obtain ⟨ds_end, v_end, bd_end⟩ := F_end.binds1 (ps := ["yard", "stream", "sizes"]) 2 0 (List.cons_ne_nil _ _) rfl fun _ _ _ _ _ _ _ us its hl hi => match us, its, hl, hi with | [_, _], [_], _, _ => ⟨_, rfl, rfl⟩
  have b_end := FYH.bindsF (ps := ["yard", "stream", "sizes"]) F_end (List.cons_ne_nil _ _) fun _ _ _ _ _ _ _ us its hl hi => match us, its, hl, hi with | [_, _, _], [_], _, _ => ⟨_, rfl, rfl⟩
  have b_flows := F_flows.binds (ps := ["yard", "stream"]) fun _ _ _ _ _ _ us hl => match us, hl with | [_, _], _ => rfl
  have b_law_led := F_law_led.binds (ps := ["_law_pot_here", "_law_yard", "_law_stream_here", "_law_sizes"]) fun _ _ _ _ _ _ us hl => match us, hl with | [_, _, _, _], _ => rfl
  have b_law_right := F_law_right.binds (ps := ["_law_pot_here"]) fun _ _ _ _ _ _ us hl => match us, hl with | [_], _ => rfl
  have b_is_begin := F_is_begin.binds (ps := ["yard", "value"]) fun _ _ _ _ _ _ us hl => match us, hl with | [_, _], _ => rfl
  have b_law := F_law.binds (ps := ["_law_script"]) fun _ _ _ _ _ _ us hl => match us, hl with | [_], _ => rfl
  have b_whole := F_whole.binds (ps := ["self", "term", "line"]) fun _ _ _ _ _ _ us hl => match us, hl with | [_, _, _], _ => rfl
  have c_is_sign : C8.Cal P w K mg base 1 "is_sign" spIsSign [] := ⟨⟨_, _, _, [], ok_is_sign F_is_sign T, m_is_sign, F_is_sign.kp, b_is_sign, .nil⟩⟩
  have c_is_text : C8.Cal P w K mg base 1 "is_text" spIsText [] := ⟨⟨_, _, _, [], ok_is_text F_is_text T, m_is_text, F_is_text.kp, b_is_text, .nil⟩⟩
  have c_is_text_of : C8.Cal P w K mg base 2 "is_text_of" spIsTextOf [] := ⟨⟨_, _, _, [], ok_is_text_of F_is_text_of T c_is_text, m_is_text_of, F_is_text_of.kp, b_is_text_of, .nil⟩⟩
  have c_want_stream : C8.Cal P w K mg base 3 "want_stream" spWantStream [] := ⟨⟨_, _, _, [], ok_want_stream F_want_stream T c_is_text_of, m_want_stream, F_want_stream.kp, b_want_stream, .nil⟩⟩
  have c_parts_of : C8.Cal P w K mg base 1 "parts_of" spPartsOf [] := ⟨⟨_, _, _, [], ok_parts_of F_parts_of T, m_parts_of, F_parts_of.kp, b_parts_of, .nil⟩⟩
  have c_has_shape : C8.Cal P w K mg base 2 "has_shape" spHasShape [] := ⟨⟨_, _, _, [], ok_has_shape F_has_shape T c_is_sign c_is_text, m_has_shape, F_has_shape.kp, b_has_shape, .nil⟩⟩
  have c_is_term : C8.Cal P w K mg base 3 "is_term" spIsTerm [] := ⟨⟨_, _, _, [], ok_is_term F_is_term T c_has_shape c_parts_of, m_is_term, F_is_term.kp, b_is_term, .nil⟩⟩
  have c_want_term : C8.Cal P w K mg base 4 "want_term" spWantTerm [] := ⟨⟨_, _, _, [], ok_want_term F_want_term T c_is_term, m_want_term, F_want_term.kp, b_want_term, .nil⟩⟩
  have c_half_of : C8.Cal P w K mg base 1 "half_of" spHalf [] := ⟨⟨_, _, _, [], ok_half_of F_half_of T, m_half_of, F_half_of.kp, b_half_of, .nil⟩⟩
  have c_turned : C8.Cal P w K mg base 1 "turned" spTurned [] := ⟨⟨_, _, _, [], ok_turned F_turned T, m_turned, F_turned.kp, b_turned, .nil⟩⟩
  have c_changes_of : C8.Cal P w K mg base 1 "changes_of" spChanges [] := ⟨⟨_, _, _, [], ok_changes_of F_changes_of T, m_changes_of, F_changes_of.kp, b_changes_of, .nil⟩⟩
  have c_counts_of : C8.Cal P w K mg base 1 "counts_of" spCounts [] := ⟨⟨_, _, _, [], ok_counts_of F_counts_of T, m_counts_of, F_counts_of.kp, b_counts_of, .nil⟩⟩
  have c_of_one : C8.Cal P w K mg base 2 "of_one" spOfOne [] := ⟨⟨_, _, _, [], ok_of_one F_of_one T c_half_of c_turned c_changes_of c_counts_of, m_of_one, F_of_one.kp, b_of_one, .nil⟩⟩
  have c_of_two : C8.Cal P w K mg base 1 "of_two" spOfTwo [] := ⟨⟨_, _, _, [], ok_of_two F_of_two T, m_of_two, F_of_two.kp, b_of_two, .nil⟩⟩
  have r_flow_by := fun n => ok_flow_by (P := P) (w := w) (base := base) F_flow_by T m_flow_by F_flow_by.kp b_flow_by c_parts_of c_of_one c_of_two n
  have c_flow_of : C8.Cal P w K mg base 13 "flow_of" spFlowOf [] := ⟨⟨_, _, _, [], ok_flow_of F_flow_of T c_want_term c_want_stream (r_flow_by 9), m_flow_of, F_flow_of.kp, b_flow_of, .nil⟩⟩
  have c__law_single : C8.Cal P w K mg base 1 "_law_single" spOfOne [] := ⟨⟨_, _, _, [], ok_law_single F_law_single T, m_law_single, F_law_single.kp, b_law_single, .nil⟩⟩
  have r_law_flow := fun n => ok_law_flow (P := P) (w := w) (base := base) F_law_flow T m_law_flow F_law_flow.kp b_law_flow c__law_single n
  have c__law_draw : C8.Cal P w K mg base 1 "_law_draw" spDraw [] := ⟨⟨_, _, _, [], ok_law_draw F_law_draw T, m_law_draw, F_law_draw.kp, b_law_draw, .nil⟩⟩
  have c__law_pick : C8.Cal P w K mg base 2 "_law_pick" spPick [] := ⟨⟨_, _, _, [], ok_law_pick F_law_pick T c__law_draw, m_law_pick, F_law_pick.kp, b_law_pick, .nil⟩⟩
  have c__law_pot : C8.Cal P w K mg base 1 "_law_pot" (spPot K) [] := ⟨⟨_, _, _, [], ok_law_pot F_law_pot T, m_law_pot, F_law_pot.kp, b_law_pot, .nil⟩⟩
  have r_law_term := fun n => ok_law_term (P := P) (w := w) (base := base) F_law_term T m_law_term F_law_term.kp b_law_term c__law_draw c__law_pick n
  have c__law_stream : C8.Cal P w K mg base 3 "_law_stream" spStream [] := ⟨⟨_, _, _, [], ok_law_stream F_law_stream T c__law_draw c__law_pick, m_law_stream, F_law_stream.kp, b_law_stream, .nil⟩⟩
  have c_is_integer : C8.Cal P w K mg base 1 "is_integer" spIsInt [] := ⟨⟨_, _, _, [], ok_is_integer F_is_integer T, m_is_integer, F_is_integer.kp, b_is_integer, .nil⟩⟩
  have c_is_count : C8.Cal P w K mg base 2 "is_count" spIsCount [] := ⟨⟨_, _, _, [], ok_is_count F_is_count T c_is_integer, m_is_count, F_is_count.kp, b_is_count, .nil⟩⟩
  have c_is_below : C8.Cal P w K mg base 3 "is_below" spIsBelow [] := ⟨⟨_, _, _, [], ok_is_below F_is_below T c_is_count, m_is_below, F_is_below.kp, b_is_below, .nil⟩⟩
  have c_is_list : C8.Cal P w K mg base 1 "is_list" spIsList [] := ⟨⟨_, _, _, [], ok_is_list F_is_list T, m_is_list, F_is_list.kp, b_is_list, .nil⟩⟩
  have c_is_row : C8.Cal P w K mg base 4 "is_row" spIsRow [] := ⟨⟨_, _, _, [], ok_is_row F_is_row T c_is_integer c_is_text_of c_is_below, m_is_row, F_is_row.kp, b_is_row, .nil⟩⟩
  have c_are_read : C8.Cal P w K mg base 1 "are_read" spAreRead [] := ⟨⟨_, _, _, [], ok_are_read F_are_read T L, m_are_read, F_are_read.kp, b_are_read, .nil⟩⟩
  have c_is_standing_told : C8.Cal P w K mg base 5 "is_standing_told" spIsTold [] := ⟨⟨_, _, _, [], ok_is_standing_told F_is_standing_told T c_are_read c_is_list c_is_row, m_is_standing_told, F_is_standing_told.kp, b_is_standing_told, .nil⟩⟩
  have mk_Station : C8.Mak P w K mg base 6 "Station" C (spStInit C) [] := ⟨⟨_, _, _, [], mk_Station_init', ok_Station_init F_Station_init T S c_is_integer c_is_list c_is_standing_told, g_Station, b_Station_init, .nil⟩⟩
  have c_row : C8.Cal P w K mg base 1 "row" spRow [] := ⟨⟨_, _, _, [], ok_row F_row, m_row, F_row.kp, b_row, .nil⟩⟩
  have c_kept : C8.Cal P w K mg base 1 "kept" spKept [] := ⟨⟨_, _, _, [], ok_kept F_kept, m_kept, F_kept.kp, b_kept, .nil⟩⟩
  have c_one_way : C8.Cal P w K mg base 8 "one_way" (spOneWay C) [] := ⟨⟨_, _, _, [], ok_one_way F_one_way T mk_Station, m_one_way, F_one_way.kp, b_one_way, .nil⟩⟩
  have c_late_rows : C8.Cal P w K mg base 2 "late_rows" spLate [] := ⟨⟨_, _, _, [], ok_late_rows F_late_rows T c_row, m_late_rows, F_late_rows.kp, b_late_rows, .nil⟩⟩
  have r_outer_ins := fun n => ok_outer_ins (P := P) (w := w) (base := base) F_outer_ins T m_outer_ins F_outer_ins.kp b_outer_ins c_parts_of n
  have mk_Draft : C8.Mak P w K mg base 1 "Draft" CD (spDrInit CD C) [] := ⟨⟨_, _, _, [], mk_Draft_init', ok_Draft_init F_Draft_init D, g_Draft, b_Draft_init, .nil⟩⟩
  have m_Draft_add : C8.Met P w K mg base 1 CD "add" (spAdd CD C) [] := ⟨⟨_, _, _, [], clCD, me_Draft_add, ok_Draft_add F_Draft_add T D, b_Draft_add, .nil⟩⟩
  have m_Draft_copies : C8.Met P w K mg base 8 CD "copies" (spCopies CD C) [] := ⟨⟨_, _, _, [], clCD, me_Draft_copies, ok_Draft_copies F_Draft_copies T mk_Station m_Draft_add, b_Draft_copies, .nil⟩⟩
  have c_want_stations : C8.Cal P w K mg base 2 "want_stations" (spWantSt C) [] := ⟨⟨_, _, _, [], ok_want_stations F_want_stations T S IS Y0 c_is_list, m_want_stations, F_want_stations.kp, b_want_stations, .nil⟩⟩
  have c_is_pipe : C8.Cal P w K mg base 4 "is_pipe" (spIsPipe C) [] := ⟨⟨_, _, _, [], ok_is_pipe F_is_pipe T S c_is_below, m_is_pipe, F_is_pipe.kp, b_is_pipe, .nil⟩⟩
  have c_want_pipes : C8.Cal P w K mg base 5 "want_pipes" (spWantPp C) [] := ⟨⟨_, _, _, [], ok_want_pipes F_want_pipes T S c_is_list c_is_pipe, m_want_pipes, F_want_pipes.kp, b_want_pipes, .nil⟩⟩
  have c_free_lines : C8.Cal P w K mg base 1 "free_lines" (spFree C) [] := ⟨⟨_, _, _, [], ok_free_lines F_free_lines T S, m_free_lines, F_free_lines.kp, b_free_lines, .nil⟩⟩
  have pr_Yard_pipes : Prp P w K mg base 1 CY "pipes" (spYP CY C) := ⟨⟨_, _, _, _, clCY, p_Yard_pipes', ok_Yard_pipes F_Yard_pipes T Y, b_Yard_pipes⟩⟩
  have len_Yard : LenC P w K mg base 1 CY (spYL CY C) := ⟨⟨_, _, _, ok_Yard_len F_Yard_len T Y, me_Yard_len.at_, me_Yard_len.fn, b_Yard_len⟩⟩
  have c_text_at : C8.Cal P w K mg base 1 "text_at" (spTextAt CY C) [] := ⟨⟨_, _, _, [], ok_text_at F_text_at T Y, m_text_at, F_text_at.kp, b_text_at, .nil⟩⟩
  have c_place_of : C8.Cal P w K mg base 1 "place_of" spPlace [] := ⟨⟨_, _, _, [], ok_place_of F_place_of T, m_place_of, F_place_of.kp, b_place_of, .nil⟩⟩
  have c_begun : C8.Cal P w K mg base 1 "begun" (spBegun CY C) [] := ⟨⟨_, _, _, [], ok_begun F_begun T Y, m_begun, F_begun.kp, b_begun, .nil⟩⟩
  have c_beat_row : C8.Cal P w K mg base 2 "beat_row" (spBeatRow CY C) [] := ⟨⟨_, _, _, [], ok_beat_row F_beat_row T L LT S Y c_text_at c_place_of, m_beat_row, F_beat_row.kp, b_beat_row, .nil⟩⟩
  have c_has_room : C8.Cal P w K mg base 1 "has_room" (spRoom CY C) [] := ⟨⟨_, _, _, [], ok_has_room F_has_room T Y, m_has_room, F_has_room.kp, b_has_room, .nil⟩⟩
  have c_is_possible : C8.Cal P w K mg base 3 "is_possible" (spPoss CY C) [] := ⟨⟨_, _, _, [], ok_is_possible F_is_possible c_beat_row c_has_room, m_is_possible, F_is_possible.kp, b_is_possible, .nil⟩⟩
  have c_possible : C8.Cal P w K mg base 4 "possible" (spPossible CY C) [] := ⟨⟨_, _, _, [], ok_possible F_possible T len_Yard c_is_possible, m_possible, F_possible.kp, b_possible, .nil⟩⟩
  have c_after_beat : C8.Cal P w K mg base 3 "after_beat" (spAfter CY C) [] := ⟨⟨_, _, _, [], ok_after_beat F_after_beat T L LT S Y c_beat_row, m_after_beat, F_after_beat.kp, b_after_beat, .nil⟩⟩
  have c_want_station : C8.Cal P w K mg base 4 "want_station" (spWSt CY C) [] := ⟨⟨_, _, _, [], ok_want_station F_want_station T len_Yard c_is_below, m_want_station, F_want_station.kp, b_want_station, .nil⟩⟩
  have c_are_sizes : C8.Cal P w K mg base 2 "are_sizes" (spSizes CY C) [] := ⟨⟨_, _, _, [], ok_are_sizes F_are_sizes T Y c_is_integer, m_are_sizes, F_are_sizes.kp, b_are_sizes, .nil⟩⟩
  have c_want_sizes : C8.Cal P w K mg base 3 "want_sizes" (spWSz CY C) [] := ⟨⟨_, _, _, [], ok_want_sizes F_want_sizes c_are_sizes, m_want_sizes, F_want_sizes.kp, b_want_sizes, .nil⟩⟩
  have len_Station : LenC P w K mg base 1 C (spStL C) := ⟨⟨_, _, _, ok_Station_len F_Station_len T S, me_Station_len.at_, me_Station_len.fn, b_Station_len⟩⟩
  have c_is_state : C8.Cal P w K mg base 4 "is_state" (spIsState CY C) [] := ⟨⟨_, _, _, [], ok_is_state F_is_state T Y len_Yard len_Station c_is_below c_is_text, m_is_state, F_is_state.kp, b_is_state, .nil⟩⟩
  have c_want_state : C8.Cal P w K mg base 5 "want_state" (spWState CY C) [] := ⟨⟨_, _, _, [], ok_want_state F_want_state c_is_state, m_want_state, F_want_state.kp, b_want_state, .nil⟩⟩
  have c_begin_of : C8.Cal P w K mg base 4 "begin_of" (spBeginOf CY C) [] := ⟨⟨_, _, _, [], ok_begin_of F_begin_of c_want_stream c_begun, m_begin_of, F_begin_of.kp, b_begin_of, .nil⟩⟩
  have c_can_be_done : C8.Cal P w K mg base 6 "can_be_done" (spCan CY C) [] := ⟨⟨_, _, _, [], ok_can_be_done F_can_be_done c_want_state c_want_sizes c_possible, m_can_be_done, F_can_be_done.kp, b_can_be_done, .nil⟩⟩
  have c_can_be_done' : C8.Cal P w K mg base 6 "can_be_done" (spCan CY C) [.non] := ⟨⟨_, _, _, ds_can_be_done, ok_can_be_done F_can_be_done c_want_state c_want_sizes c_possible, m_can_be_done, F_can_be_done.kp, bd_can_be_done, v_can_be_done⟩⟩
  have c_done : C8.Cal P w K mg base 6 "done" (spDone CY C) [] := ⟨⟨_, _, _, [], ok_done F_done c_want_state c_want_sizes c_want_station c_is_possible c_after_beat, m_done, F_done.kp, b_done, .nil⟩⟩
  have c_done' : C8.Cal P w K mg base 6 "done" (spDone CY C) [.non] := ⟨⟨_, _, _, ds_done, ok_done F_done c_want_state c_want_sizes c_want_station c_is_possible c_after_beat, m_done, F_done.kp, bd_done, v_done⟩⟩
  have c_fault_of : C8.Cal P w K mg base 4 "fault_of" (spFault CY C) [] := ⟨⟨_, _, _, [], ok_fault_of F_fault_of T len_Yard c_is_list c_begun c_is_below c_is_possible c_after_beat, m_fault_of, F_fault_of.kp, b_fault_of, .nil⟩⟩
  have c_behind_run : C8.Cal P w K mg base 5 "behind_run" (spBehind CY C) [] := ⟨⟨_, _, _, [], ok_behind_run F_behind_run c_fault_of, m_behind_run, F_behind_run.kp, b_behind_run, .nil⟩⟩
  have c_state_behind : C8.Cal P w K mg base 6 "state_behind" (spBehind CY C) [] := ⟨⟨_, _, _, [], ok_state_behind F_state_behind c_want_stream c_want_sizes c_behind_run, m_state_behind, F_state_behind.kp, b_state_behind, .nil⟩⟩
  have c_state_behind' : C8.Cal P w K mg base 6 "state_behind" (spBehind CY C) [.non] := ⟨⟨_, _, _, ds_state_behind, ok_state_behind F_state_behind c_want_stream c_want_sizes c_behind_run, m_state_behind, F_state_behind.kp, bd_state_behind, v_state_behind⟩⟩
  have c_is_full : C8.Cal P w K mg base 7 "is_full" (spFull CY C) [] := ⟨⟨_, _, _, [], ok_is_full F_is_full c_possible c_state_behind, m_is_full, F_is_full.kp, b_is_full, .nil⟩⟩
  have c_is_full' : C8.Cal P w K mg base 7 "is_full" (spFull CY C) [.non] := ⟨⟨_, _, _, ds_is_full, ok_is_full F_is_full c_possible c_state_behind, m_is_full, F_is_full.kp, bd_is_full, v_is_full⟩⟩
  have c_finished : C8.Cal P w K mg base 5 "finished" (spFin CY C) [] := ⟨⟨_, _, _, [], ok_finished F_finished T c_possible c_after_beat, m_finished, F_finished.kp, b_finished, .nil⟩⟩
  have c_finished' : C8.Cal P w K mg base 5 "finished" (spFin CY C) [.int (20000 : Nat)] := ⟨⟨_, _, _, ds_finished, ok_finished F_finished T c_possible c_after_beat, m_finished, F_finished.kp, bd_finished, v_finished⟩⟩
  have c_full_run : C8.Cal P w K mg base 6 "full_run" (spRunF CY C) [] := ⟨⟨_, _, _, [], ok_full_run F_full_run c_want_stream c_want_sizes c_begun c_finished', m_full_run, F_full_run.kp, b_full_run, .nil⟩⟩
  have c_full_run' : C8.Cal P w K mg base 6 "full_run" (spRunF CY C) [.non] := ⟨⟨_, _, _, ds_full_run, ok_full_run F_full_run c_want_stream c_want_sizes c_begun c_finished', m_full_run, F_full_run.kp, bd_full_run, v_full_run⟩⟩
  have c_end : C8.Cal P w K mg base 6 "end" (spEnd CY C) [] := ⟨⟨_, _, _, [], ok_end F_end c_want_stream c_want_sizes c_begun c_finished', m_end, F_end.kp, b_end, .nil⟩⟩
  have c_end' : C8.Cal P w K mg base 6 "end" (spEnd CY C) [.non] := ⟨⟨_, _, _, ds_end, ok_end F_end c_want_stream c_want_sizes c_begun c_finished', m_end, F_end.kp, bd_end, v_end⟩⟩
  have c_flows : C8.Cal P w K mg base 7 "flows" (spFlows CY C) [] := ⟨⟨_, _, _, [], ok_flows F_flows T c_end', m_flows, F_flows.kp, b_flows, .nil⟩⟩
  have c__law_led : C8.Cal P w K mg base 7 "_law_led" (spLed CY C) [] := ⟨⟨_, _, _, [], ok_law_led F_law_led T c_begin_of c_can_be_done c__law_pick c_done, m_law_led, F_law_led.kp, b_law_led, .nil⟩⟩
  have c_is_begin : C8.Cal P w K mg base 1 "is_begin" spNever [] := ⟨⟨_, _, _, [], ok_is_begin F_is_begin, m_is_begin, F_is_begin.kp, b_is_begin, .nil⟩⟩
  have c_rows_of : C8.Cal P w K mg base 3 "rows_of" spRowsOf [] := ⟨⟨_, _, _, [], ok_rows_of F_rows_of c_row c_late_rows, m_rows_of, F_rows_of.kp, b_rows_of, .nil⟩⟩
  have c_station_of : C8.Cal P w K mg base 9 "station_of" (spStOf C) [] := ⟨⟨_, _, _, [], ok_station_of F_station_of T U mk_Station c_row c_kept c_rows_of c_one_way, m_station_of, F_station_of.kp, b_station_of, .nil⟩⟩
  have m_Draft_part : C8.Met P w K mg base 28 CD "part" (spPart CD C 9) [] := ok_parts F_parts F_whole clCD me_parts me_whole b_parts b_whole T c_parts_of c_station_of m_Draft_add m_Draft_copies r_outer_ins 9
  have m_Draft_whole : C8.Met P w K mg base 29 CD "whole" (spWhole CD C 9) [] := ⟨⟨_, _, _, [], clCD, me_whole, step_whole (n := 9) F_whole m_Draft_copies (r_outer_ins 9) m_Draft_part, b_whole, .nil⟩⟩
  have mk_Yard : C8.Mak P w K mg base 6 "Yard" CY (spYdInit CY C) [.non] := ⟨⟨_, _, _, ds_Yard_init, mk_Yard_init', ok_Yard_init F_Yard_init T Y c_want_stations c_want_pipes c_free_lines c_is_begin, g_Yard, bd_Yard_init, v_Yard_init⟩⟩
  have m_Draft_made : C8.Met P w K mg base 9 CD "made" (spMade CD CY C) [] := ⟨⟨_, _, _, [], clCD, me_Draft_made, ok_Draft_made F_Draft_made D c_row c_one_way mk_Yard, b_Draft_made, .nil⟩⟩
  have c_compiled : C8.Cal P w K mg base 30 "compiled" (spCompiled CY C) [] := ⟨⟨_, _, _, [], ok_compiled F_compiled c_want_term mk_Draft m_Draft_whole m_Draft_made, m_compiled, F_compiled.kp, b_compiled, .nil⟩⟩
  have c__law_right : C8.Cal P w K mg base 31 "_law_right" spRt [] := ⟨⟨_, _, _, [], ok_law_right F_law_right T c__law_draw (r_law_term 9) c__law_stream c_compiled (r_law_flow 9) c_flow_of c_flows c__law_led c_end' c_is_full' c_full_run' c_state_behind' pr_Yard_pipes, m_law_right, F_law_right.kp, b_law_right, .nil⟩⟩
  exact ok_law F_law c__law_pot c__law_right
end FY

set_option Elab.async false
set_option linter.all false
set_option maxRecDepth 100000
set_option maxHeartbeats 0
namespace FYH
open PySem PySem.Spec PyProof.Rows L2 FYR FY
theorem isa_of {K : PySem.W.Frag} {C : Addr} (cl : Cls K C) (h : isaB K C = true) : IsaC K C := by
  obtain ⟨h1, h⟩ := He.ba h
  obtain ⟨h2, h⟩ := He.ba h
  obtain ⟨h3, h4⟩ := He.ba h
  exact ⟨cl, He.eqO_ok h1, He.eqO_ok h2, of_decide_eq_true h3, of_decide_eq_true h4⟩
theorem facts {P : Program} {w : World} {K : PySem.W.Frag} {h : Heap} {mg : Str → Option Value} {f : Addr} (X : K.In h) (G : h.Ns mainGlobals mg) (hfa : mg ("law" : Str) = some (.ref f)) (c : hd.Says w K) :
    ∃ fd : FuncData, (∀ (s : Shared) (v : Value), BindsTo s fd ⟨[v], []⟩ [("_law_script", v)]) ∧ ∀ base : Heap, K.In base → base.Ns mainGlobals mg → FnOk P w K mg base CX0 32 f fd ["_law_script"] (spLaw K) := by
  have e := hfa.symm.trans (He.glo_ok X G (c.t.d.fact 78 (f := .glo "law") rfl))
  cases e
  have ex : ∀ (i : Nat) {e : PySem.W.Frag → Bool}, exs[i]? = some e → e K = true := fun i e h => List.all_eq_true.mp c.ex e (List.mem_of_getElem? h)
  obtain ⟨fd_is_sign, G_is_sign⟩ := c.t.d.def_ 0 (d := ⟨("is_sign", none), "is_sign", "is_sign", defArgs (top 26), defBody (top 26), defScope (top 26), [], []⟩) rfl
  have F_is_sign := fun_ofD (st := FY.s_is_sign) G_is_sign
  obtain ⟨fd_is_text, G_is_text⟩ := c.t.d.def_ 1 (d := ⟨("is_text", none), "is_text", "is_text", defArgs (top 27), defBody (top 27), defScope (top 27), [], []⟩) rfl
  have F_is_text := fun_ofD (st := FY.s_is_text) G_is_text
  obtain ⟨fd_is_text_of, G_is_text_of⟩ := c.t.d.def_ 2 (d := ⟨("is_text_of", none), "is_text_of", "is_text_of", defArgs (top 29), defBody (top 29), defScope (top 29), [], []⟩) rfl
  have F_is_text_of := fun_ofD (st := FY.s_is_text_of) G_is_text_of
  obtain ⟨fd_want_stream, G_want_stream⟩ := c.t.d.def_ 3 (d := ⟨("want_stream", none), "want_stream", "want_stream", defArgs (top 53), defBody (top 53), defScope (top 53), [], []⟩) rfl
  have F_want_stream := fun_ofD (st := FY.s_want_stream) G_want_stream
  obtain ⟨fd_parts_of, G_parts_of⟩ := c.t.d.def_ 4 (d := ⟨("parts_of", none), "parts_of", "parts_of", defArgs (top 86), defBody (top 86), defScope (top 86), [], []⟩) rfl
  have F_parts_of := fun_ofD (st := FY.s_parts_of) G_parts_of
  obtain ⟨fd_has_shape, G_has_shape⟩ := c.t.d.def_ 5 (d := ⟨("has_shape", none), "has_shape", "has_shape", defArgs (top 87), defBody (top 87), defScope (top 87), [], []⟩) rfl
  have F_has_shape := fun_ofD (st := FY.s_has_shape) G_has_shape
  obtain ⟨fd_is_term, G_is_term⟩ := c.t.d.def_ 6 (d := ⟨("is_term", none), "is_term", "is_term", defArgs (top 88), defBody (top 88), defScope (top 88), [], []⟩) rfl
  have F_is_term := fun_ofD (st := FY.s_is_term) G_is_term
  obtain ⟨fd_want_term, G_want_term⟩ := c.t.d.def_ 7 (d := ⟨("want_term", none), "want_term", "want_term", defArgs (top 89), defBody (top 89), defScope (top 89), [], []⟩) rfl
  have F_want_term := fun_ofD (st := FY.s_want_term) G_want_term
  obtain ⟨fd_half_of, G_half_of⟩ := c.t.d.def_ 8 (d := ⟨("half_of", none), "half_of", "half_of", defArgs (top 90), defBody (top 90), defScope (top 90), [], []⟩) rfl
  have F_half_of := fun_ofD (st := FY.s_half_of) G_half_of
  obtain ⟨fd_turned, G_turned⟩ := c.t.d.def_ 9 (d := ⟨("turned", none), "turned", "turned", defArgs (top 93), defBody (top 93), defScope (top 93), [], []⟩) rfl
  have F_turned := fun_ofD (st := FY.s_turned) G_turned
  obtain ⟨fd_changes_of, G_changes_of⟩ := c.t.d.def_ 10 (d := ⟨("changes_of", none), "changes_of", "changes_of", defArgs (top 91), defBody (top 91), defScope (top 91), [], []⟩) rfl
  have F_changes_of := fun_ofD (st := FY.s_changes_of) G_changes_of
  obtain ⟨fd_counts_of, G_counts_of⟩ := c.t.d.def_ 11 (d := ⟨("counts_of", none), "counts_of", "counts_of", defArgs (top 92), defBody (top 92), defScope (top 92), [], []⟩) rfl
  have F_counts_of := fun_ofD (st := FY.s_counts_of) G_counts_of
  obtain ⟨fd_of_one, G_of_one⟩ := c.t.d.def_ 12 (d := ⟨("of_one", none), "of_one", "of_one", defArgs (top 94), defBody (top 94), defScope (top 94), [], []⟩) rfl
  have F_of_one := fun_ofD (st := FY.s_of_one) G_of_one
  obtain ⟨fd_of_two, G_of_two⟩ := c.t.d.def_ 13 (d := ⟨("of_two", none), "of_two", "of_two", defArgs (top 95), defBody (top 95), defScope (top 95), [], []⟩) rfl
  have F_of_two := fun_ofD (st := FY.s_of_two) G_of_two
  obtain ⟨fd_flow_by, G_flow_by⟩ := c.t.d.def_ 14 (d := ⟨("flow_by", none), "flow_by", "flow_by", defArgs (top 96), defBody (top 96), defScope (top 96), [], []⟩) rfl
  have F_flow_by := fun_ofD (st := FY.s_flow_by) G_flow_by
  obtain ⟨fd_flow_of, G_flow_of⟩ := c.t.d.def_ 15 (d := ⟨("flow_of", none), "flow_of", "flow_of", defArgs (top 97), defBody (top 97), defScope (top 97), [], []⟩) rfl
  have F_flow_of := fun_ofD (st := FY.s_flow_of) G_flow_of
  obtain ⟨fd_law_single, G_law_single⟩ := c.t.d.def_ 16 (d := ⟨("_law_single", none), "_law_single", "_law_single", defArgs (top 114), defBody (top 114), defScope (top 114), [], []⟩) rfl
  have F_law_single := fun_ofD (st := FY.s_law_single) G_law_single
  obtain ⟨fd_law_flow, G_law_flow⟩ := c.t.d.def_ 17 (d := ⟨("_law_flow", none), "_law_flow", "_law_flow", defArgs (top 115), defBody (top 115), defScope (top 115), [], []⟩) rfl
  have F_law_flow := fun_ofD (st := FY.s_law_flow) G_law_flow
  obtain ⟨fd_law_draw, G_law_draw⟩ := c.t.d.def_ 18 (d := ⟨("_law_draw", none), "_law_draw", "_law_draw", defArgs (top 111), defBody (top 111), defScope (top 111), [], []⟩) rfl
  have F_law_draw := fun_ofD (st := FY.s_law_draw) G_law_draw
  obtain ⟨fd_law_pick, G_law_pick⟩ := c.t.d.def_ 19 (d := ⟨("_law_pick", none), "_law_pick", "_law_pick", defArgs (top 112), defBody (top 112), defScope (top 112), [], []⟩) rfl
  have F_law_pick := fun_ofD (st := FY.s_law_pick) G_law_pick
  obtain ⟨fd_law_pot, G_law_pot⟩ := c.t.d.def_ 20 (d := ⟨("_law_pot", none), "_law_pot", "_law_pot", defArgs (top 110), defBody (top 110), defScope (top 110), [], []⟩) rfl
  have F_law_pot := fun_ofD (st := FY.s_law_pot) G_law_pot
  obtain ⟨fd_law_term, G_law_term⟩ := c.t.d.def_ 21 (d := ⟨("_law_term", none), "_law_term", "_law_term", defArgs (top 113), defBody (top 113), defScope (top 113), [], []⟩) rfl
  have F_law_term := fun_ofD (st := FY.s_law_term) G_law_term
  obtain ⟨fd_law_stream, G_law_stream⟩ := c.t.d.def_ 22 (d := ⟨("_law_stream", none), "_law_stream", "_law_stream", defArgs (top 116), defBody (top 116), defScope (top 116), [], []⟩) rfl
  have F_law_stream := fun_ofD (st := FY.s_law_stream) G_law_stream
  obtain ⟨fd_is_integer, G_is_integer⟩ := c.t.d.def_ 23 (d := ⟨("is_integer", none), "is_integer", "is_integer", defArgs (top 23), defBody (top 23), defScope (top 23), [], []⟩) rfl
  have F_is_integer := fun_ofD (st := FY.s_is_integer) G_is_integer
  obtain ⟨fd_is_count, G_is_count⟩ := c.t.d.def_ 24 (d := ⟨("is_count", none), "is_count", "is_count", defArgs (top 24), defBody (top 24), defScope (top 24), [], []⟩) rfl
  have F_is_count := fun_ofD (st := FY.s_is_count) G_is_count
  obtain ⟨fd_is_below, G_is_below⟩ := c.t.d.def_ 25 (d := ⟨("is_below", none), "is_below", "is_below", defArgs (top 25), defBody (top 25), defScope (top 25), [], []⟩) rfl
  have F_is_below := fun_ofD (st := FY.s_is_below) G_is_below
  obtain ⟨fd_is_list, G_is_list⟩ := c.t.d.def_ 26 (d := ⟨("is_list", none), "is_list", "is_list", defArgs (top 28), defBody (top 28), defScope (top 28), [], []⟩) rfl
  have F_is_list := fun_ofD (st := FY.s_is_list) G_is_list
  obtain ⟨fd_is_row, G_is_row⟩ := c.t.d.def_ 27 (d := ⟨("is_row", none), "is_row", "is_row", defArgs (top 36), defBody (top 36), defScope (top 36), [], []⟩) rfl
  have F_is_row := fun_ofD (st := FY.s_is_row) G_is_row
  obtain ⟨fd_are_read, G_are_read⟩ := c.t.d.def_ 28 (d := ⟨("are_read", none), "are_read", "are_read", defArgs (top 37), defBody (top 37), defScope (top 37), [], []⟩) rfl
  have F_are_read := fun_ofD (st := FY.s_are_read) G_are_read
  obtain ⟨fd_is_standing_told, G_is_standing_told⟩ := c.t.d.def_ 29 (d := ⟨("is_standing_told", none), "is_standing_told", "is_standing_told", defArgs (top 38), defBody (top 38), defScope (top 38), [], []⟩) rfl
  have F_is_standing_told := fun_ofD (st := FY.s_is_standing_told) G_is_standing_told
  obtain ⟨fd_Station_init, G_Station_init⟩ := c.t.d.def_ 30 (d := ⟨("Station", some "__init__"), "__init__", "Station.__init__", defArgs (inClass (top 40) 0), defBody (inClass (top 40) 0), defScope (inClass (top 40) 0), [], []⟩) rfl
  have F_Station_init := fun_ofD (st := FY.s_Station___init__) G_Station_init
  obtain ⟨fd_row, G_row⟩ := c.t.d.def_ 31 (d := ⟨("row", none), "row", "row", defArgs (top 100), defBody (top 100), defScope (top 100), [], []⟩) rfl
  have F_row := fun_ofD (st := FY.s_row) G_row
  obtain ⟨fd_kept, G_kept⟩ := c.t.d.def_ 32 (d := ⟨("kept", none), "kept", "kept", defArgs (top 104), defBody (top 104), defScope (top 104), [], []⟩) rfl
  have F_kept := fun_ofD (st := FY.s_kept) G_kept
  obtain ⟨fd_one_way, G_one_way⟩ := c.t.d.def_ 33 (d := ⟨("one_way", none), "one_way", "one_way", defArgs (top 101), defBody (top 101), defScope (top 101), [], []⟩) rfl
  have F_one_way := fun_ofD (st := FY.s_one_way) G_one_way
  obtain ⟨fd_rows_of, G_rows_of⟩ := c.t.d.def_ 34 (d := ⟨("rows_of", none), "rows_of", "rows_of", defArgs (top 103), defBody (top 103), defScope (top 103), [], []⟩) rfl
  have F_rows_of := fun_ofD (st := FY.s_rows_of) G_rows_of
  obtain ⟨fd_late_rows, G_late_rows⟩ := c.t.d.def_ 35 (d := ⟨("late_rows", none), "late_rows", "late_rows", defArgs (top 102), defBody (top 102), defScope (top 102), [], []⟩) rfl
  have F_late_rows := fun_ofD (st := FY.s_late_rows) G_late_rows
  obtain ⟨fd_station_of, G_station_of⟩ := c.t.d.def_ 36 (d := ⟨("station_of", none), "station_of", "station_of", defArgs (top 105), defBody (top 105), defScope (top 105), [], []⟩) rfl
  have F_station_of := fun_ofD (st := FY.s_station_of) G_station_of
  obtain ⟨fd_outer_ins, G_outer_ins⟩ := c.t.d.def_ 37 (d := ⟨("outer_ins", none), "outer_ins", "outer_ins", defArgs (top 106), defBody (top 106), defScope (top 106), [], []⟩) rfl
  have F_outer_ins := fun_ofD (st := FY.s_outer_ins) G_outer_ins
  obtain ⟨fd_Draft_init, G_Draft_init⟩ := c.t.d.def_ 38 (d := ⟨("Draft", some "__init__"), "__init__", "Draft.__init__", defArgs (inClass (top 107) 0), defBody (inClass (top 107) 0), defScope (inClass (top 107) 0), [], []⟩) rfl
  have F_Draft_init := fun_ofD (st := FY.s_Draft___init__) G_Draft_init
  obtain ⟨fd_Draft_add, G_Draft_add⟩ := c.t.d.def_ 39 (d := ⟨("Draft", some "add"), "add", "Draft.add", defArgs (inClass (top 107) 1), defBody (inClass (top 107) 1), defScope (inClass (top 107) 1), [], []⟩) rfl
  have F_Draft_add := fun_ofD (st := FY.s_Draft_add) G_Draft_add
  obtain ⟨fd_Draft_copies, G_Draft_copies⟩ := c.t.d.def_ 40 (d := ⟨("Draft", some "copies"), "copies", "Draft.copies", defArgs (inClass (top 107) 2), defBody (inClass (top 107) 2), defScope (inClass (top 107) 2), [], []⟩) rfl
  have F_Draft_copies := fun_ofD (st := FY.s_Draft_copies) G_Draft_copies
  obtain ⟨fd_parts, G_parts⟩ := c.t.d.def_ 41 (d := ⟨("Draft", some "part"), "part", "Draft.part", defArgs (inClass (top 107) 4), defBody (inClass (top 107) 4), defScope (inClass (top 107) 4), [], []⟩) rfl
  have F_parts := fun_ofD (st := FY.s_Draft_part) G_parts
  obtain ⟨fd_want_stations, G_want_stations⟩ := c.t.d.def_ 42 (d := ⟨("want_stations", none), "want_stations", "want_stations", defArgs (top 42), defBody (top 42), defScope (top 42), [], []⟩) rfl
  have F_want_stations := fun_ofD (st := FY.s_want_stations) G_want_stations
  obtain ⟨fd_is_pipe, G_is_pipe⟩ := c.t.d.def_ 43 (d := ⟨("is_pipe", none), "is_pipe", "is_pipe", defArgs (top 43), defBody (top 43), defScope (top 43), [], []⟩) rfl
  have F_is_pipe := fun_ofD (st := FY.s_is_pipe) G_is_pipe
  obtain ⟨fd_want_pipes, G_want_pipes⟩ := c.t.d.def_ 44 (d := ⟨("want_pipes", none), "want_pipes", "want_pipes", defArgs (top 44), defBody (top 44), defScope (top 44), [], []⟩) rfl
  have F_want_pipes := fun_ofD (st := FY.s_want_pipes) G_want_pipes
  obtain ⟨fd_free_lines, G_free_lines⟩ := c.t.d.def_ 45 (d := ⟨("free_lines", none), "free_lines", "free_lines", defArgs (top 45), defBody (top 45), defScope (top 45), [], []⟩) rfl
  have F_free_lines := fun_ofD (st := FY.s_free_lines) G_free_lines
  obtain ⟨fd_Yard_init, G_Yard_init⟩ := c.t.d.def_ 46 (d := ⟨("Yard", some "__init__"), "__init__", "Yard.__init__", defArgs (inClass (top 47) 2), defBody (inClass (top 47) 2), defScope (inClass (top 47) 2), [.non], []⟩) rfl
  obtain ⟨fd_Yard_pipes, P_Yard_pipes, F_Yard_pipes⟩ := c.prop (d := ("Yard", "pipes", "Yard.pipes", inClass (top 47) 4)) (List.mem_of_getElem? (i := 0) rfl)
  obtain ⟨fd_Yard_len, G_Yard_len⟩ := c.t.d.def_ 47 (d := ⟨("Yard", some "__len__"), "__len__", "Yard.__len__", defArgs (inClass (top 47) 8), defBody (inClass (top 47) 8), defScope (inClass (top 47) 8), [], []⟩) rfl
  have F_Yard_len := fun_ofD (st := FY.s_Yard___len__) G_Yard_len
  obtain ⟨fd_Draft_made, G_Draft_made⟩ := c.t.d.def_ 48 (d := ⟨("Draft", some "made"), "made", "Draft.made", defArgs (inClass (top 107) 5), defBody (inClass (top 107) 5), defScope (inClass (top 107) 5), [], []⟩) rfl
  have F_Draft_made := fun_ofD (st := FY.s_Draft_made) G_Draft_made
  obtain ⟨fd_compiled, G_compiled⟩ := c.t.d.def_ 49 (d := ⟨("compiled", none), "compiled", "compiled", defArgs (top 108), defBody (top 108), defScope (top 108), [], []⟩) rfl
  have F_compiled := fun_ofD (st := FY.s_compiled) G_compiled
  obtain ⟨fd_text_at, G_text_at⟩ := c.t.d.def_ 50 (d := ⟨("text_at", none), "text_at", "text_at", defArgs (top 59), defBody (top 59), defScope (top 59), [], []⟩) rfl
  have F_text_at := fun_ofD (st := FY.s_text_at) G_text_at
  obtain ⟨fd_place_of, G_place_of⟩ := c.t.d.def_ 51 (d := ⟨("place_of", none), "place_of", "place_of", defArgs (top 39), defBody (top 39), defScope (top 39), [], []⟩) rfl
  have F_place_of := fun_ofD (st := FY.s_place_of) G_place_of
  obtain ⟨fd_begun, G_begun⟩ := c.t.d.def_ 52 (d := ⟨("begun", none), "begun", "begun", defArgs (top 58), defBody (top 58), defScope (top 58), [], []⟩) rfl
  have F_begun := fun_ofD (st := FY.s_begun) G_begun
  obtain ⟨fd_beat_row, G_beat_row⟩ := c.t.d.def_ 53 (d := ⟨("beat_row", none), "beat_row", "beat_row", defArgs (top 60), defBody (top 60), defScope (top 60), [], []⟩) rfl
  have F_beat_row := fun_ofD (st := FY.s_beat_row) G_beat_row
  obtain ⟨fd_has_room, G_has_room⟩ := c.t.d.def_ 54 (d := ⟨("has_room", none), "has_room", "has_room", defArgs (top 61), defBody (top 61), defScope (top 61), [], []⟩) rfl
  have F_has_room := fun_ofD (st := FY.s_has_room) G_has_room
  obtain ⟨fd_is_possible, G_is_possible⟩ := c.t.d.def_ 55 (d := ⟨("is_possible", none), "is_possible", "is_possible", defArgs (top 62), defBody (top 62), defScope (top 62), [], []⟩) rfl
  have F_is_possible := fun_ofD (st := FY.s_is_possible) G_is_possible
  obtain ⟨fd_possible, G_possible⟩ := c.t.d.def_ 56 (d := ⟨("possible", none), "possible", "possible", defArgs (top 63), defBody (top 63), defScope (top 63), [], []⟩) rfl
  have F_possible := fun_ofD (st := FY.s_possible) G_possible
  obtain ⟨fd_after_beat, G_after_beat⟩ := c.t.d.def_ 57 (d := ⟨("after_beat", none), "after_beat", "after_beat", defArgs (top 64), defBody (top 64), defScope (top 64), [], []⟩) rfl
  have F_after_beat := fun_ofD (st := FY.s_after_beat) G_after_beat
  obtain ⟨fd_want_station, G_want_station⟩ := c.t.d.def_ 58 (d := ⟨("want_station", none), "want_station", "want_station", defArgs (top 48), defBody (top 48), defScope (top 48), [], []⟩) rfl
  have F_want_station := fun_ofD (st := FY.s_want_station) G_want_station
  obtain ⟨fd_are_sizes, G_are_sizes⟩ := c.t.d.def_ 59 (d := ⟨("are_sizes", none), "are_sizes", "are_sizes", defArgs (top 54), defBody (top 54), defScope (top 54), [], []⟩) rfl
  have F_are_sizes := fun_ofD (st := FY.s_are_sizes) G_are_sizes
  obtain ⟨fd_want_sizes, G_want_sizes⟩ := c.t.d.def_ 60 (d := ⟨("want_sizes", none), "want_sizes", "want_sizes", defArgs (top 55), defBody (top 55), defScope (top 55), [], []⟩) rfl
  have F_want_sizes := fun_ofD (st := FY.s_want_sizes) G_want_sizes
  obtain ⟨fd_Station_len, G_Station_len⟩ := c.t.d.def_ 61 (d := ⟨("Station", some "__len__"), "__len__", "Station.__len__", defArgs (inClass (top 40) 6), defBody (inClass (top 40) 6), defScope (inClass (top 40) 6), [], []⟩) rfl
  have F_Station_len := fun_ofD (st := FY.s_Station___len__) G_Station_len
  obtain ⟨fd_is_state, G_is_state⟩ := c.t.d.def_ 62 (d := ⟨("is_state", none), "is_state", "is_state", defArgs (top 56), defBody (top 56), defScope (top 56), [], []⟩) rfl
  have F_is_state := fun_ofD (st := FY.s_is_state) G_is_state
  obtain ⟨fd_want_state, G_want_state⟩ := c.t.d.def_ 63 (d := ⟨("want_state", none), "want_state", "want_state", defArgs (top 57), defBody (top 57), defScope (top 57), [], []⟩) rfl
  have F_want_state := fun_ofD (st := FY.s_want_state) G_want_state
  obtain ⟨fd_begin_of, G_begin_of⟩ := c.t.d.def_ 64 (d := ⟨("begin_of", none), "begin_of", "begin_of", defArgs (top 65), defBody (top 65), defScope (top 65), [], []⟩) rfl
  have F_begin_of := fun_ofD (st := FY.s_begin_of) G_begin_of
  obtain ⟨fd_can_be_done, G_can_be_done⟩ := c.t.d.def_ 65 (d := ⟨("can_be_done", none), "can_be_done", "can_be_done", defArgs (top 66), defBody (top 66), defScope (top 66), [.non], []⟩) rfl
  obtain ⟨fd_done, G_done⟩ := c.t.d.def_ 66 (d := ⟨("done", none), "done", "done", defArgs (top 67), defBody (top 67), defScope (top 67), [.non], []⟩) rfl
  obtain ⟨fd_fault_of, G_fault_of⟩ := c.t.d.def_ 67 (d := ⟨("fault_of", none), "fault_of", "fault_of", defArgs (top 68), defBody (top 68), defScope (top 68), [], []⟩) rfl
  have F_fault_of := fun_ofD (st := FY.s_fault_of) G_fault_of
  obtain ⟨fd_behind_run, G_behind_run⟩ := c.t.d.def_ 68 (d := ⟨("behind_run", none), "behind_run", "behind_run", defArgs (top 69), defBody (top 69), defScope (top 69), [], []⟩) rfl
  have F_behind_run := fun_ofD (st := FY.s_behind_run) G_behind_run
  obtain ⟨fd_state_behind, G_state_behind⟩ := c.t.d.def_ 69 (d := ⟨("state_behind", none), "state_behind", "state_behind", defArgs (top 70), defBody (top 70), defScope (top 70), [.non], []⟩) rfl
  obtain ⟨fd_is_full, G_is_full⟩ := c.t.d.def_ 70 (d := ⟨("is_full", none), "is_full", "is_full", defArgs (top 71), defBody (top 71), defScope (top 71), [.non], []⟩) rfl
  obtain ⟨fd_finished, G_finished⟩ := c.t.d.def_ 71 (d := ⟨("finished", none), "finished", "finished", defArgs (top 72), defBody (top 72), defScope (top 72), [.int 20000], []⟩) rfl
  obtain ⟨fd_full_run, G_full_run⟩ := c.t.d.def_ 72 (d := ⟨("full_run", none), "full_run", "full_run", defArgs (top 73), defBody (top 73), defScope (top 73), [.non], []⟩) rfl
  obtain ⟨fd_end, G_end⟩ := c.t.d.def_ 73 (d := ⟨("end", none), "end", "end", defArgs (top 74), defBody (top 74), defScope (top 74), [.non], []⟩) rfl
  obtain ⟨fd_flows, G_flows⟩ := c.t.d.def_ 74 (d := ⟨("flows", none), "flows", "flows", defArgs (top 75), defBody (top 75), defScope (top 75), [], []⟩) rfl
  have F_flows := fun_ofD (st := FY.s_flows) G_flows
  obtain ⟨fd_law_led, G_law_led⟩ := c.t.d.def_ 75 (d := ⟨("_law_led", none), "_law_led", "_law_led", defArgs (top 117), defBody (top 117), defScope (top 117), [], []⟩) rfl
  have F_law_led := fun_ofD (st := FY.s_law_led) G_law_led
  obtain ⟨fd_law_right, G_law_right⟩ := c.t.d.def_ 76 (d := ⟨("_law_right", none), "_law_right", "_law_right", defArgs (top 118), defBody (top 118), defScope (top 118), [], []⟩) rfl
  have F_law_right := fun_ofD (st := FY.s_law_right) G_law_right
  obtain ⟨fd_is_begin, G_is_begin⟩ := c.t.d.def_ 77 (d := ⟨("is_begin", none), "is_begin", "is_begin", defArgs (top 46), defBody (top 46), defScope (top 46), [], []⟩) rfl
  have F_is_begin := fun_ofD (st := FY.s_is_begin) G_is_begin
  obtain ⟨fd_law, G_law⟩ := c.t.d.def_ 78 (d := ⟨("law", none), "law", "law", defArgs (top 119), defBody (top 119), defScope (top 119), [], []⟩) rfl
  have F_law := fun_ofD (st := FY.s_law) G_law
  obtain ⟨fd_whole, G_whole⟩ := c.t.d.def_ 79 (d := ⟨("Draft", some "whole"), "whole", "Draft.whole", defArgs (inClass (top 107) 3), defBody (inClass (top 107) 3), defScope (inClass (top 107) 3), [], []⟩) rfl
  have F_whole := fun_ofD (st := FY.s_Draft_whole) G_whole
  have T : Txt K mg (He.ga K "SIGNS") (He.ga K "OF_ONE") (He.ga K "OF_TWO") := { b_len := He.free_ok X G (c.t.d.fact 97 (f := .free "len") rfl), b_isinstance := He.free_ok X G (c.t.d.fact 98 (f := .free "isinstance") rfl), b_all := He.free_ok X G (c.t.d.fact 99 (f := .free "all") rfl), b_sum := He.free_ok X G (c.t.d.fact 100 (f := .free "sum") rfl), b_abs := He.free_ok X G (c.t.d.fact 101 (f := .free "abs") rfl), b_max := He.free_ok X G (c.t.d.fact 102 (f := .free "max") rfl), b_min := He.free_ok X G (c.t.d.fact 103 (f := .free "min") rfl), b_divmod := He.free_ok X G (c.t.d.fact 104 (f := .free "divmod") rfl), b_repr := He.free_ok X G (c.t.d.fact 105 (f := .free "repr") rfl), b_int := He.free_ok X G (c.t.d.fact 106 (f := .free "int") rfl), b_str := He.free_ok X G (c.t.d.fact 107 (f := .free "str") rfl), b_tuple := He.free_ok X G (c.t.d.fact 108 (f := .free "tuple") rfl), b_list := He.free_ok X G (c.t.d.fact 109 (f := .free "list") rfl), b_zip := He.free_ok X G (c.t.d.fact 110 (f := .free "zip") rfl), b_range := He.free_ok X G (c.t.d.fact 111 (f := .free "range") rfl), b_bool := He.free_ok X G (c.t.d.fact 112 (f := .free "bool") rfl), b_enumerate := He.free_ok X G (c.t.d.fact 113 (f := .free "enumerate") rfl), b_sorted := He.free_ok X G (c.t.d.fact 114 (f := .free "sorted") rfl), g_SIGNS := ⟨_, He.glo_ok X G (c.t.d.fact 127 (f := .glo "SIGNS") rfl), rfl⟩, k_SIGNS := fun H => tupA_ok (ex 0 rfl) H, g_OF_ONE := ⟨_, He.glo_ok X G (c.t.d.fact 128 (f := .glo "OF_ONE") rfl), rfl⟩, k_OF_ONE := fun H => tupA_ok (ex 1 rfl) H, g_OF_TWO := ⟨_, He.glo_ok X G (c.t.d.fact 129 (f := .glo "OF_TWO") rfl), rfl⟩, k_OF_TWO := fun H => tupA_ok (ex 2 rfl) H, g_IN := (let ⟨t, e⟩ := He.str_ok X G (c.t.d.fact 122 (f := .str "IN" "in") rfl); ⟨_, e, ⟨t, rfl⟩⟩), g_LATE := (let ⟨t, e⟩ := He.str_ok X G (c.t.d.fact 123 (f := .str "LATE" "late") rfl); ⟨_, e, ⟨t, rfl⟩⟩), g_BY := (let ⟨t, e⟩ := He.str_ok X G (c.t.d.fact 124 (f := .str "BY" "by") rfl); ⟨_, e, ⟨t, rfl⟩⟩), g_KEEP := (let ⟨t, e⟩ := He.str_ok X G (c.t.d.fact 125 (f := .str "KEEP" "keep") rfl); ⟨_, e, ⟨t, rfl⟩⟩), g_THEN := (let ⟨t, e⟩ := He.str_ok X G (c.t.d.fact 126 (f := .str "THEN" "then") rfl); ⟨_, e, ⟨t, rfl⟩⟩), g_MOST_STANDINGS := (let ⟨t, e⟩ := He.int_ok X G (c.t.d.fact 115 (f := .int "MOST_STANDINGS" 4) rfl); ⟨_, e, ⟨t, rfl⟩⟩), g_MOST_GIVEN := (let ⟨t, e⟩ := He.int_ok X G (c.t.d.fact 116 (f := .int "MOST_GIVEN" 2) rfl); ⟨_, e, ⟨t, rfl⟩⟩), g_MOST_TICKS := (let ⟨t, e⟩ := He.int_ok X G (c.t.d.fact 117 (f := .int "MOST_TICKS" 9) rfl); ⟨_, e, ⟨t, rfl⟩⟩), g_MOST_SIZE := (let ⟨t, e⟩ := He.int_ok X G (c.t.d.fact 118 (f := .int "MOST_SIZE" 3) rfl); ⟨_, e, ⟨t, rfl⟩⟩), g_MOST_NODES := (let ⟨t, e⟩ := He.int_ok X G (c.t.d.fact 119 (f := .int "MOST_NODES" 9) rfl); ⟨_, e, ⟨t, rfl⟩⟩), g_MOST_SIGNS := (let ⟨t, e⟩ := He.int_ok X G (c.t.d.fact 120 (f := .int "MOST_SIGNS" 8000) rfl); ⟨_, e, ⟨t, rfl⟩⟩), g_MOST_STREAM := (let ⟨t, e⟩ := He.int_ok X G (c.t.d.fact 121 (f := .int "MOST_STREAM" 1000) rfl); ⟨_, e, ⟨t, rfl⟩⟩) }
  have U : Twos K mg (He.ga K "TWOS") := ⟨⟨_, He.glo_ok X G (c.t.d.fact 130 (f := .glo "TWOS") rfl), rfl⟩, fun H => tupA_ok (ex 3 rfl) H⟩
  have L : Lin K w mg (He.ga K "LINES") := ⟨⟨_, He.glo_ok X G (c.t.d.fact 131 (f := .glo "LINES") rfl), rfl⟩, c.t.tab 0 (t := (fun K => He.ga K "LINES", ["1", "2", "12"])) rfl, fun r => match r with | .one => ⟨_, He.eqO_ok (ex 4 rfl)⟩ | .two => ⟨_, He.eqO_ok (ex 6 rfl)⟩ | .both => ⟨_, He.eqO_ok (ex 8 rfl)⟩⟩
  have LT : LinT K (He.ga K "LINES") := ⟨fun r => match r with | .one => ⟨_, He.eqO_ok (ex 4 rfl), fun H => tupA_ok (ex 5 rfl) H⟩ | .two => ⟨_, He.eqO_ok (ex 6 rfl), fun H => tupA_ok (ex 7 rfl) H⟩ | .both => ⟨_, He.eqO_ok (ex 8 rfl), fun H => tupA_ok (ex 9 rfl) H⟩⟩
  have S : StC K mg (He.ga K "Station") := { g_Station := ⟨_, He.glo_ok X G (c.t.d.fact 80 (f := .glo "Station") rfl), rfl⟩, cl := He.cls_ok (c.t.d.fact 81 (f := .cls "Station") rfl), nI := He.noat_ok (c.t.d.fact 86 (f := .noat "Station" "own_ins") rfl), nO := He.noat_ok (c.t.d.fact 87 (f := .noat "Station" "own_outs") rfl), nS := He.noat_ok (c.t.d.fact 88 (f := .noat "Station" "own_standings") rfl) }
  have D : DrC K mg (He.ga K "Draft") := { cl := He.cls_ok (c.t.d.fact 83 (f := .cls "Draft") rfl), nS := He.noat_ok (c.t.d.fact 89 (f := .noat "Draft" "own_stations") rfl), nP := He.noat_ok (c.t.d.fact 90 (f := .noat "Draft" "own_pipes") rfl) }
  have Y : YdF K (He.ga K "Yard") := { cl := He.cls_ok (c.t.d.fact 85 (f := .cls "Yard") rfl), nS := He.noat_ok (c.t.d.fact 91 (f := .noat "Yard" "own_stations") rfl), nP := He.noat_ok (c.t.d.fact 92 (f := .noat "Yard" "own_pipes") rfl), nX := He.noat_ok (c.t.d.fact 93 (f := .noat "Yard" "own_exits") rfl), nB := He.noat_ok (c.t.d.fact 94 (f := .noat "Yard" "own_begin") rfl), nI := He.noat_ok (c.t.d.fact 95 (f := .noat "Yard" "own_into") rfl), nO := He.noat_ok (c.t.d.fact 96 (f := .noat "Yard" "own_onto") rfl), me := He.conB_ok (ex 13 rfl) }
  have Y0 : YdC K mg (He.ga K "Yard") (.type "type") := { g_Yard := ⟨_, He.glo_ok X G (c.t.d.fact 84 (f := .glo "Yard") rfl), rfl⟩, cr := creB_ok (ex 11 rfl), ms := cvB_ok (ex 12 rfl) }
  have IS : IsaC K (He.ga K "Station") := isa_of (He.cls_ok (c.t.d.fact 81 (f := .cls "Station") rfl)) (ex 10 rfl)
  have bL := FunD.bindsA (ps := ["_law_script"]) G_law fun _ _ _ _ _ _ us hl => match us, hl with | [_], _ => rfl
  exact ⟨fd_law, fun s v => bL s [v] rfl, fun base _ _ => FY.all_mk T U L LT S D Y Y0 IS F_is_sign (He.glo_ok X G (c.t.d.fact 0 (f := .glo "is_sign") rfl)) F_is_text (He.glo_ok X G (c.t.d.fact 1 (f := .glo "is_text") rfl)) F_is_text_of (He.glo_ok X G (c.t.d.fact 2 (f := .glo "is_text_of") rfl)) F_want_stream (He.glo_ok X G (c.t.d.fact 3 (f := .glo "want_stream") rfl)) F_parts_of (He.glo_ok X G (c.t.d.fact 4 (f := .glo "parts_of") rfl)) F_has_shape (He.glo_ok X G (c.t.d.fact 5 (f := .glo "has_shape") rfl)) F_is_term (He.glo_ok X G (c.t.d.fact 6 (f := .glo "is_term") rfl)) F_want_term (He.glo_ok X G (c.t.d.fact 7 (f := .glo "want_term") rfl)) F_half_of (He.glo_ok X G (c.t.d.fact 8 (f := .glo "half_of") rfl)) F_turned (He.glo_ok X G (c.t.d.fact 9 (f := .glo "turned") rfl)) F_changes_of (He.glo_ok X G (c.t.d.fact 10 (f := .glo "changes_of") rfl)) F_counts_of (He.glo_ok X G (c.t.d.fact 11 (f := .glo "counts_of") rfl)) F_of_one (He.glo_ok X G (c.t.d.fact 12 (f := .glo "of_one") rfl)) F_of_two (He.glo_ok X G (c.t.d.fact 13 (f := .glo "of_two") rfl)) F_flow_by (He.glo_ok X G (c.t.d.fact 14 (f := .glo "flow_by") rfl)) F_flow_of (He.glo_ok X G (c.t.d.fact 15 (f := .glo "flow_of") rfl)) F_law_single (He.glo_ok X G (c.t.d.fact 16 (f := .glo "_law_single") rfl)) F_law_flow (He.glo_ok X G (c.t.d.fact 17 (f := .glo "_law_flow") rfl)) F_law_draw (He.glo_ok X G (c.t.d.fact 18 (f := .glo "_law_draw") rfl)) F_law_pick (He.glo_ok X G (c.t.d.fact 19 (f := .glo "_law_pick") rfl)) F_law_pot (He.glo_ok X G (c.t.d.fact 20 (f := .glo "_law_pot") rfl)) F_law_term (He.glo_ok X G (c.t.d.fact 21 (f := .glo "_law_term") rfl)) F_law_stream (He.glo_ok X G (c.t.d.fact 22 (f := .glo "_law_stream") rfl)) F_is_integer (He.glo_ok X G (c.t.d.fact 23 (f := .glo "is_integer") rfl)) F_is_count (He.glo_ok X G (c.t.d.fact 24 (f := .glo "is_count") rfl)) F_is_below (He.glo_ok X G (c.t.d.fact 25 (f := .glo "is_below") rfl)) F_is_list (He.glo_ok X G (c.t.d.fact 26 (f := .glo "is_list") rfl)) F_is_row (He.glo_ok X G (c.t.d.fact 27 (f := .glo "is_row") rfl)) F_are_read (He.glo_ok X G (c.t.d.fact 28 (f := .glo "are_read") rfl)) F_is_standing_told (He.glo_ok X G (c.t.d.fact 29 (f := .glo "is_standing_told") rfl)) F_Station_init (He.mkr_ok (c.t.d.fact 30 (f := .mkr "Station") rfl)) F_row (He.glo_ok X G (c.t.d.fact 31 (f := .glo "row") rfl)) F_kept (He.glo_ok X G (c.t.d.fact 32 (f := .glo "kept") rfl)) F_one_way (He.glo_ok X G (c.t.d.fact 33 (f := .glo "one_way") rfl)) F_rows_of (He.glo_ok X G (c.t.d.fact 34 (f := .glo "rows_of") rfl)) F_late_rows (He.glo_ok X G (c.t.d.fact 35 (f := .glo "late_rows") rfl)) F_station_of (He.glo_ok X G (c.t.d.fact 36 (f := .glo "station_of") rfl)) F_outer_ins (He.glo_ok X G (c.t.d.fact 37 (f := .glo "outer_ins") rfl)) F_Draft_init (He.mkr_ok (c.t.d.fact 38 (f := .mkr "Draft") rfl)) F_Draft_add (He.meth_ok (c.t.d.fact 39 (f := .meth "Draft" "add") rfl)) F_Draft_copies (He.meth_ok (c.t.d.fact 40 (f := .meth "Draft" "copies") rfl)) F_parts (He.meth_ok (c.t.d.fact 41 (f := .meth "Draft" "part") rfl)) F_want_stations (He.glo_ok X G (c.t.d.fact 42 (f := .glo "want_stations") rfl)) F_is_pipe (He.glo_ok X G (c.t.d.fact 43 (f := .glo "is_pipe") rfl)) F_want_pipes (He.glo_ok X G (c.t.d.fact 44 (f := .glo "want_pipes") rfl)) F_free_lines (He.glo_ok X G (c.t.d.fact 45 (f := .glo "free_lines") rfl)) G_Yard_init (He.mkr_ok (c.t.d.fact 46 (f := .mkr "Yard") rfl)) F_Yard_pipes P_Yard_pipes F_Yard_len (He.meth_ok (c.t.d.fact 47 (f := .meth "Yard" "__len__") rfl)) F_Draft_made (He.meth_ok (c.t.d.fact 48 (f := .meth "Draft" "made") rfl)) F_compiled (He.glo_ok X G (c.t.d.fact 49 (f := .glo "compiled") rfl)) F_text_at (He.glo_ok X G (c.t.d.fact 50 (f := .glo "text_at") rfl)) F_place_of (He.glo_ok X G (c.t.d.fact 51 (f := .glo "place_of") rfl)) F_begun (He.glo_ok X G (c.t.d.fact 52 (f := .glo "begun") rfl)) F_beat_row (He.glo_ok X G (c.t.d.fact 53 (f := .glo "beat_row") rfl)) F_has_room (He.glo_ok X G (c.t.d.fact 54 (f := .glo "has_room") rfl)) F_is_possible (He.glo_ok X G (c.t.d.fact 55 (f := .glo "is_possible") rfl)) F_possible (He.glo_ok X G (c.t.d.fact 56 (f := .glo "possible") rfl)) F_after_beat (He.glo_ok X G (c.t.d.fact 57 (f := .glo "after_beat") rfl)) F_want_station (He.glo_ok X G (c.t.d.fact 58 (f := .glo "want_station") rfl)) F_are_sizes (He.glo_ok X G (c.t.d.fact 59 (f := .glo "are_sizes") rfl)) F_want_sizes (He.glo_ok X G (c.t.d.fact 60 (f := .glo "want_sizes") rfl)) F_Station_len (He.meth_ok (c.t.d.fact 61 (f := .meth "Station" "__len__") rfl)) F_is_state (He.glo_ok X G (c.t.d.fact 62 (f := .glo "is_state") rfl)) F_want_state (He.glo_ok X G (c.t.d.fact 63 (f := .glo "want_state") rfl)) F_begin_of (He.glo_ok X G (c.t.d.fact 64 (f := .glo "begin_of") rfl)) G_can_be_done (He.glo_ok X G (c.t.d.fact 65 (f := .glo "can_be_done") rfl)) G_done (He.glo_ok X G (c.t.d.fact 66 (f := .glo "done") rfl)) F_fault_of (He.glo_ok X G (c.t.d.fact 67 (f := .glo "fault_of") rfl)) F_behind_run (He.glo_ok X G (c.t.d.fact 68 (f := .glo "behind_run") rfl)) G_state_behind (He.glo_ok X G (c.t.d.fact 69 (f := .glo "state_behind") rfl)) G_is_full (He.glo_ok X G (c.t.d.fact 70 (f := .glo "is_full") rfl)) G_finished (He.glo_ok X G (c.t.d.fact 71 (f := .glo "finished") rfl)) G_full_run (He.glo_ok X G (c.t.d.fact 72 (f := .glo "full_run") rfl)) G_end (He.glo_ok X G (c.t.d.fact 73 (f := .glo "end") rfl)) F_flows (He.glo_ok X G (c.t.d.fact 74 (f := .glo "flows") rfl)) F_law_led (He.glo_ok X G (c.t.d.fact 75 (f := .glo "_law_led") rfl)) F_law_right (He.glo_ok X G (c.t.d.fact 76 (f := .glo "_law_right") rfl)) F_is_begin (He.glo_ok X G (c.t.d.fact 77 (f := .glo "is_begin") rfl)) F_law (He.glo_ok X G (c.t.d.fact 78 (f := .glo "law") rfl)) F_whole (He.meth_ok (c.t.d.fact 79 (f := .meth "Draft" "whole") rfl)) (He.cls_ok (c.t.d.fact 81 (f := .cls "Station") rfl)) (He.glo_ok X G (c.t.d.fact 80 (f := .glo "Station") rfl)) (He.cls_ok (c.t.d.fact 83 (f := .cls "Draft") rfl)) (He.glo_ok X G (c.t.d.fact 82 (f := .glo "Draft") rfl)) (He.cls_ok (c.t.d.fact 85 (f := .cls "Yard") rfl)) (He.glo_ok X G (c.t.d.fact 84 (f := .glo "Yard") rfl))⟩
end FYH

set_option Elab.async false
set_option linter.all false
open PySem PySem.W PySem.Calls PyProof.Rows
set_option maxRecDepth 100000 in
set_option maxHeartbeats 0 in
theorem PySem.Challenge.cw_flowyard_k23_whole_meant_by_any_schedule_holds : PySem.Challenge.rw_flowyard_k23_whole_meant_by_any_schedule.Holds := by
  w_on; o_law
  refine HandSHeadRun.head_any (r := FYH.R) (q := FYH.qv) (H := FYH.hd.hk) (ob := FYH.hd.ob) (M := 20000) (loose := FYH.nms) (d := HandSHeadRun.topDef FYH.R.prog 119) (kwd := []) FYH.hd.ob_eq
    (by kernel_rfl) (fun s => by kernel_rfl) FYH.run (by kernel_rfl) (by kernel_rfl) (by kernel_rfl) (by rfl) (by first | assumption | decide +kernel) (by decide +kernel) ⟨rfl, rfl, rfl, rfl, rfl, by decide +kernel⟩ ?hw ?hc
  case hw => w_witness2
  case hc =>
    refine L2.walk_ofE (l := PySem.Challenge.rw_flowyard_k23_whole_meant_by_any_schedule) (n := 63) (k := 32) (x := "_law_script") (CX := L2.CX0) rfl (by decide) (by kernel_rfl) ⟨rfl, by decide, by decide⟩ ?F (fun _ _ _ _ z => z)
    intro w mg fa h Y G hmg0
    obtain ⟨K, KX, c⟩ := Y
    have hmg : mg ("law" : PySem.Str) = some (.ref fa) := by
      have e : (HandSHeadRun.topDef FYH.R.prog 119).name = ("law" : PySem.Str) := by kernel_rfl
      rw [← e]
      exact hmg0
    obtain ⟨fd, hb, hF⟩ := FYH.facts (P := (PySem.Challenge.rw_flowyard_k23_whole_meant_by_any_schedule).prog) (w := w) KX G hmg c
    exact ⟨K, fd, FY.spLaw K, KX, hb, fun H a ns hl _ hS => ⟨a, ns, rfl, hS, fun _ => rfl⟩, hF⟩

