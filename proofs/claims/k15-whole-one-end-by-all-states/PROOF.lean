import PyProof.Rows.All
import Wide.All
import OpenK.AllK
import Wide.FinOn
import KE.KStateDown
import HandS.ForMost
import HandS.Words
import HandS.Defaults
import HandS.Property
import HandS.ClsMeth
import HandS.Head0
import HandS.Head1
import HandS.Head2
import HandS.HeadEnd
import HandS.HeadHook1
import HandS.HeadHook2
import HandS.HeadHook3
import HandS.HeadHook4
import PySem.Challenge.RW_flowyard_k15_whole_one_end_by_all_states
import KE.KDictKeyed
import KE.KDictDisplayH
import KE.KDictLaw
import HandS.Codes
import HandS.Walk
import HandS.IsInst
import HandS.WideBits
import KE.GoesEnum
import PyProof.ReprRoads
import PyProof.ReprText
import HandS.Exc
import HandS.ExcInit
import HandS.ExcField
import KE.KExcInit
import PyProof.ExcBaseAll.RuntimeError
import HandS.ExcOwn
import KE.KDictZip
import KE.KDictItemsList
import HandS.ListItems
import HandS.More
import HandS.TupMul
import HandS.OwnEq
import HandS.Deep
import HandS.TupSets
import HandS.NamedTupGet
import HandS.DictComp
import HandS.DictTup
import KE.GoesMore
import KE.KDictCopyH
import HandS.List
import KE.DataCmp
import HandS.TupAny
import HandS.Zip
import HandS.Dict
import HandS.SortInts
import PyProof.NoPylong
import HandS.Star
import KE.KDictPairs
import HandS.IntHex
import HandS.Text
import HandS.Style
import HandS.WordsExc
import HandS.MakeKw
import HandS.Lambda
import HandS.EndTab
import HandS.RaiseMore
import HandS.SetFor
set_option Elab.async false
set_option linter.all false
set_option maxRecDepth 100000
set_option maxHeartbeats 0
/-! own head: a short list of addresses is looked at; the law's texts print the lists -/
namespace FYH
open PySem PySem.Spec PyProof.Rows L2
def refs1 (g : Addr → Option Obj) (a : Addr) : List Addr := match g a with
  | some o => He.refsO o
  | none => []
def lv (g : Addr → Option Obj) (as : List Addr) : List Addr := as.flatMap (refs1 g)
def gaN (g : Addr → Option Obj) (xs : List Str) : List Addr := xs.map (He.ga (He.frG g [mainGlobals]))
/-- the addresses that are looked at: defs, classes, tables by their names -/
def asN (ds cs tp : List Str) (g : Addr → Option Obj) : List Addr :=
  mainGlobals :: cStatics :: (gaN g ds ++ (lv g (gaN g ds) ++ (gaN g cs ++ (lv g (gaN g cs) ++ (lv g (lv g (gaN g cs)) ++ (lv g (lv g (lv g (gaN g cs))) ++ (lv g (lv g (lv g (lv g (gaN g cs)))) ++ (gaN g tp ++ lv g (gaN g tp)))))))))
/-! ### a def at an address -/
def fAt (K : PySem.W.Frag) (a : Addr) : He.FnW := match K.lookup a with
  | some o => (match o.data with
    | .func d => some (d.name, d.qualname, d.params, d.body, d.scope, d.globals, d.closure, d.builtins)
    | _ => none)
  | none => none
def fOk (K : PySem.W.Frag) (a : Addr) (q : Str) : Bool := PySem.W.keepIn K (.ref a) && match K.lookup a with
  | some o => (match o.data with
    | .func d => PySem.W.codeIn K d.code q && (match d.defaults with | .none => true | _ => false)
    | _ => false)
  | none => false
theorem fAt_fun {K : PySem.W.Frag} {a : Addr} {x q : Str} {st : Stmt} (e : fAt K a = some (x, q, defArgs st, .stmts (defBody st), defScope st, mainGlobals, [], builtinsNs)) (c : fOk K a q = true) : ∃ fd, Fun K x q st a fd := by
  obtain ⟨kp, c2⟩ := He.ba c
  unfold fAt at e
  cases h : K.lookup a with
  | none => rw [h] at e; cases e
  | some o =>
    rw [h] at c2 e
    obtain ⟨c1, c0, dt, sl⟩ := o
    cases dt with
    | func d =>
      obtain ⟨z1, z2, z3, z4, z5, z6, z7, z8, z9, z10, z11, z12, z13, z14, z15⟩ := d
      have e' : (some (z1, z2, z3, z4, z5, z6, z7, z15) : He.FnW) = _ := e
      have e'' := Option.some.inj e'
      simp only [Prod.mk.injEq] at e''
      obtain ⟨rfl, rfl, rfl, rfl, rfl, rfl, rfl, rfl⟩ := e''
      cases z8 with
      | none => exact ⟨_, ⟨c1, c0, z9, z10, z11, z12, z13, z14, sl, rfl, h, (He.ba (show (PySem.W.codeIn K z13 z2 && true) = true from c2)).1⟩, kp⟩
      | _ => exact Bool.noConfusion (He.ba (show (PySem.W.codeIn K z13 z2 && false) = true from c2)).2
    | _ => cases e
theorem fun_ofD {K : PySem.W.Frag} {x q : Str} {st : Stmt} {f : Addr} {fd : FuncData} (F : FunD K x q (defArgs st) (defBody st) (defScope st) [] [] f fd) : Fun K x q st f fd := by
  obtain ⟨oc, od, dV, kV, doc, pm, an, cdv, ct, osl, e, lk, hcd, hD, _⟩ := F.ex
  rcases hD with ⟨_, z⟩ | ⟨z, _⟩
  · subst z
    exact ⟨⟨oc, od, kV, doc, pm, an, cdv, ct, osl, e, lk, hcd⟩, F.kp⟩
  · exact absurd rfl z
/-- a def with defaults, all parameters given -/
theorem bindsF {K : PySem.W.Frag} {x q : Str} {pa : Arguments} {bo : List Stmt} {sc : Scope} {dvs : List V} {f : Addr} {fd : FuncData} {ps : List Str} (F : FunD K x q pa bo sc dvs [] f fd) (hd : dvs ≠ [])
    (h : ∀ (T : Addr) (kV doc pm : Value) (an : Option Addr) (cdv ct : Value) (us its : List Value), us.length = ps.length → its.length = dvs.length → ∃ k, bindArgs (PySem.W.fnOf x q pa bo sc (.ref T) kV doc pm an cdv ct) ⟨us, []⟩ = seqItems? (.ref T) >>= k ∧ k (some its.toArray) = pure (ps.zip (us ++ its.drop dvs.length))) : Binds K fd ps [] := by
  obtain ⟨ds, hv, hb⟩ := F.binds1 (ps := ps) ps.length dvs.length hd (by omega) h
  rw [List.drop_length] at hv
  cases hv
  exact hb
/-! ### properties -/
def prA (K : PySem.W.Frag) (c p : Str) : Addr := match PySem.W.recIn K (He.ma K (He.ga K c) p) "property" with
  | some (.ref g :: _) => g
  | _ => 0
def prB (K : PySem.W.Frag) (c p : Str) : Bool := He.eqO (PySem.W.findIn K (.ref (He.ga K c)) p) (some (some (.ref (He.ma K (He.ga K c) p)))) && (He.eqO (PySem.W.specialIn K (.ref (He.ma K (He.ga K c) p)) "__get__") (some (some (.builtin "property.__get__"))) && (decide (PySem.W.takesIn K (.ref (He.ma K (He.ga K c) p)) = some true) && match PySem.W.recIn K (He.ma K (He.ga K c) p) "property" with
  | some (.ref _ :: _) => true
  | _ => false))
theorem prB_ok {K : PySem.W.Frag} {c p : Str} (h : prB K c p = true) : PropOf K (He.ga K c) p (He.ma K (He.ga K c) p) (prA K c p) := by
  obtain ⟨h1, h⟩ := He.ba h
  obtain ⟨h2, h⟩ := He.ba h
  obtain ⟨h3, h4⟩ := He.ba h
  refine ⟨He.eqO_ok h1, He.eqO_ok h2, of_decide_eq_true h3, ?_⟩
  unfold prA
  cases e : PySem.W.recIn K (He.ma K (He.ga K c) p) "property" with
  | none => rw [e] at h4; cases h4
  | some l =>
    rw [e] at h4
    match l, h4 with
    | .ref g :: r, _ => exact ⟨r, rfl⟩
/-! ### tuples -/
def tupA (K : PySem.W.Frag) (a : Addr) (vs : List He.Dv) : Bool := match K.lookup a with
  | some o => (match o.data with
    | .seq its _ => decide (o.cls = .type "tuple") && (decide (its.size ≤ sizeLine) && He.relAll (vs.map (He.Dv.v K)) its.toList)
    | _ => false)
  | none => false
theorem tupA_ok {K : PySem.W.Frag} {a : Addr} {vs : List He.Dv} (h : tupA K a vs = true) (H : Hp) : SqT K H a (vs.map (He.Dv.v K)) := by
  unfold tupA at h
  cases q : K.lookup a with
  | none => rw [q] at h; cases h
  | some o =>
    rw [q] at h
    cases e : o.data with
    | seq its n =>
      simp only [e] at h
      obtain ⟨h1, h2⟩ := He.ba h
      obtain ⟨h3, h4⟩ := He.ba h2
      exact .inr ⟨o, its, n, q, of_decide_eq_true h1, e, of_decide_eq_true h3, He.relAll_ok h4⟩
    | _ => simp only [e] at h; cases h
/-- the value of a written dict at a key, an object -/
def kvA (K : PySem.W.Frag) (d : Addr) (k : Str) : Addr := match PySem.W.nsIn K d k with
  | some (some (.ref a)) => a
  | _ => 0
def kvB (K : PySem.W.Frag) (d : Addr) (k : Str) : Bool := He.eqO (PySem.W.nsIn K d k) (some (some (.ref (kvA K d k))))
/-! ### classes -/
def isaB (K : PySem.W.Frag) (C : Addr) : Bool := He.eqO (PySem.W.findIn K (.ref C) "__class__") (some (some (.builtin "object.__class__"))) && (He.eqO (PySem.W.specialIn K (.builtin "object.__class__") "__get__") (some (some (.builtin "getset_descriptor.__get__"))) && (decide (PySem.W.takesIn K (.builtin "object.__class__") = some true) && decide (PySem.W.mroIn K C (.type "object") = some true)))
def creB (K : PySem.W.Frag) (C : Addr) : Bool := PySem.W.readsIn K C (.type "type") && He.eqO (PySem.W.specialIn K (.ref C) "__getattribute__") (some (some (.builtin "type.__getattribute__")))
theorem creB_ok {K : PySem.W.Frag} {C : Addr} (h : creB K C = true) : ClX.CRead K C (.type "type") := ⟨(He.ba h).1, He.eqO_ok (He.ba h).2⟩
def cvB (K : PySem.W.Frag) (C : Addr) (f : Str) (v : V) : Bool := match PySem.W.findCls K (.ref C) (.type "type") f with
  | some (.val u) => He.relB v u
  | _ => false
theorem cvB_ok {K : PySem.W.Frag} {C : Addr} {f : Str} {v : V} (h : cvB K C f v = true) : ∃ u, ClX.CVal K C (.type "type") f v u := by
  unfold cvB at h
  cases e : PySem.W.findCls K (.ref C) (.type "type") f with
  | none => rw [e] at h; cases h
  | some x =>
    rw [e] at h
    cases x with
    | val u => exact ⟨u, e, He.relB_ok h⟩
    | _ => cases h
/-! ### the Hook -/
abbrev AlN : Type := (He.AlT × List He.FnW) × Bool
/-- a property's getter: class, name, its text -/
abbrev PrD : Type := Str × Str × Str × Stmt
def prV (d : PrD) : He.FnW := some (d.2.1, d.2.2.1, defArgs d.2.2.2, .stmts (defBody d.2.2.2), defScope d.2.2.2, mainGlobals, [], builtinsNs)
def prAll (pr : List PrD) (K : PySem.W.Frag) : Bool := pr.all fun d => prB K d.1 d.2.1 && fOk K (prA K d.1 d.2.1) d.2.2.1
structure Hd where
  ds : List Str
  cs : List Str
  tp : List Str
  fa : List He.Fa
  fn : List He.DefD
  ts : List He.Tab
  pr : List PrD
  ex : PySem.W.Frag → Bool
def Hd.obK (h : Hd) (K : PySem.W.Frag) : AlN := ((He.obsT h.fa h.fn h.ts K, h.pr.map fun d => fAt K (prA K d.1 d.2.1)), h.ex K && prAll h.pr K)
def Hd.obG (h : Hd) (g : Addr → Option Obj) : AlN := h.obK (He.frG g (asN h.ds h.cs h.tp g))
def Hd.val (h : Hd) (w : World) : AlN := ((He.valT h.fn h.ts w, h.pr.map prV), true)
def Hd.Says (h : Hd) (w : World) (K : PySem.W.Frag) : Prop := h.obK K = h.val w
def Hd.hk (h : Hd) : PySem.W.Hook where
  α := AlN
  obs := fun s => h.obG s.heap.get?
  val := fun w => h.val w
  says := fun w hp => ∃ K : PySem.W.Frag, K.In hp ∧ h.Says w K
  of := fun _ _ e => ⟨_, He.frG_in, e⟩
  keeps := fun _ _ _ ⟨K, hK, c⟩ k => ⟨K, PySem.W.Frag.In.keeps hK k, c⟩
def Hd.ob (h : Hd) (s : PySem.W.SharedT) : AlN := h.obG (HandSHeadRun.getT s)
theorem Hd.ob_eq (h : Hd) (s : PySem.W.SharedT) : h.ob s = h.hk.obs s.abs := by
  have e : HandSHeadRun.getT s = s.abs.heap.get? := funext (HandSHeadRun.getT_eq s)
  unfold Hd.ob
  rw [e]
  rfl
section
variable {h : Hd} {w : World} {K : PySem.W.Frag}
theorem Hd.Says.t (c : h.Says w K) : He.SaysT h.fa h.fn h.ts w K := congrArg (fun z : AlN => z.1.1) c
theorem Hd.Says.ex (c : h.Says w K) : h.ex K = true := (He.ba (show (h.ex K && prAll h.pr K) = true from congrArg (fun z : AlN => z.2) c)).1
theorem Hd.Says.prop (c : h.Says w K) {d : PrD} (hd : d ∈ h.pr) : ∃ fd, PropOf K (He.ga K d.1) d.2.1 (He.ma K (He.ga K d.1) d.2.1) (prA K d.1 d.2.1) ∧ Fun K d.2.1 d.2.2.1 d.2.2.2 (prA K d.1 d.2.1) fd := by
  have c2 := (He.ba (show (h.ex K && prAll h.pr K) = true from congrArg (fun z : AlN => z.2) c)).2
  obtain ⟨p1, p2⟩ := He.ba (List.all_eq_true.mp c2 d hd)
  have e : h.pr.map (fun d => fAt K (prA K d.1 d.2.1)) = h.pr.map prV := congrArg (fun z : AlN => z.1.2) c
  obtain ⟨i, hi⟩ := List.mem_iff_getElem?.mp hd
  have e2 : (h.pr.map fun d => fAt K (prA K d.1 d.2.1))[i]? = (h.pr.map prV)[i]? := by rw [e]
  rw [List.getElem?_map, List.getElem?_map, hi] at e2
  obtain ⟨fd, F⟩ := fAt_fun (Option.some.inj e2) p2
  exact ⟨fd, prB_ok p1, F⟩
end
/-- the run's equation from its parts -/
theorem join3 {α β γ δ : Type} {o : Option α} {f : α → β} {g : α → γ} {k : α → δ} {x : β} {y : γ} {z : δ} (h1 : o.map f = some x) (h2 : o.map g = some y) (h3 : o.map k = some z) : o.map (fun s => (f s, g s, k s)) = some (x, y, z) := by
  cases o with
  | none => cases h1
  | some a =>
    cases h1
    cases h2
    cases h3
    rfl
end FYH

set_option Elab.async false
set_option linter.all false
set_option maxRecDepth 100000
set_option maxHeartbeats 0
namespace FYH
open PySem PySem.Spec PyProof.Rows L2
def top (i : Nat) : Stmt := PySem.Challenge.pw_flowyard_k15_whole_one_end_by_all_states.main.body.getD i (.Pass ⟨0, 0, 0, 0⟩)
def nms0 : List Str := ["_wall", "__name__", "SIGNS", "is_integer", "is_count", "is_below", "is_text", "is_list", "is_text_of", "FlowError", "InvalidIns", "InvalidOuts", "InvalidBegin", "InvalidStanding", "InvalidStream"]
def nms1 : List Str := ["InvalidState", "InvalidSizes", "InvalidText", "InvalidStandings", "InvalidStations", "InvalidPipes", "InvalidRun", "LimitError", "TooMany", "MOST_STANDINGS", "MOST_GIVEN", "MOST_TICKS", "MOST_CONTENT", "LINES", "is_row"]
def nms2 : List Str := ["are_read", "is_standing_told", "place_of", "Station", "want_standing", "want_stations", "is_pipe", "want_pipes", "free_lines", "is_begin", "Yard", "MOST_STREAM", "MOST_BEATS", "MOST_SIZE", "want_stream"]
def nms3 : List Str := ["are_sizes", "want_sizes", "is_state", "want_state", "begun", "text_at", "beat_row", "has_room", "is_possible", "possible", "after_beat", "can_be_done", "fault_of", "behind_run", "is_run"]
def nms4 : List Str := ["state_behind", "is_full", "finished", "full_run", "end", "flows", "_law_pot", "_law_draw", "_law_pick", "_law_row", "_law_station", "_law_plan", "_law_yard", "_law_wires", "_law_begin"]
def nms5 : List Str := ["_law_row_at", "_law_can", "_law_able", "_law_behind", "_law_first_run", "_law_stream", "_law_states", "_law_drawn_run", "_law_counts", "_law_ends_right", "_law_less_right", "_law_right"]
def nms : List Str := nms0 ++ nms1 ++ nms2 ++ nms3 ++ nms4 ++ nms5
def dsN0 : List Str := ["is_text", "is_text_of", "want_stream", "_law_draw", "_law_pick", "_law_pot", "_law_stream", "is_integer", "is_count", "is_below", "is_list", "is_row", "are_read", "is_standing_told", "want_stations"]
def dsN1 : List Str := ["is_pipe", "want_pipes", "free_lines", "is_begin", "text_at", "place_of", "begun", "beat_row", "has_room", "is_possible", "possible", "after_beat", "are_sizes", "want_sizes", "is_state"]
def dsN2 : List Str := ["want_state", "can_be_done", "is_list", "fault_of", "fault_of", "fault_of", "behind_run", "is_run", "state_behind", "is_full", "finished", "full_run", "end", "flows", "_law_row"]
def dsN3 : List Str := ["_law_station", "_law_plan", "_law_yard", "_law_wires", "_law_begin", "_law_row_at", "_law_can", "_law_able", "_law_behind", "_law_first_run", "_law_drawn_run", "_law_counts", "_law_states", "fault_of", "is_run"]
def dsN4 : List Str := ["_law_ends_right", "_law_less_right", "_law_right", "law"]
def dsN : List Str := dsN0 ++ dsN1 ++ dsN2 ++ dsN3 ++ dsN4
def csN0 : List Str := ["Station", "Yard"]
def csN : List Str := csN0
def tpN0 : List Str := ["SIGNS", "LINES"]
def tpN : List Str := tpN0
def fa0 : List He.Fa := [.glo "is_text", .glo "is_text_of", .glo "want_stream", .glo "_law_draw", .glo "_law_pick", .glo "_law_pot", .glo "_law_stream", .glo "is_integer", .glo "is_count", .glo "is_below", .glo "is_list", .glo "is_row", .glo "are_read", .glo "is_standing_told", .mkr "Station"]
def fa1 : List He.Fa := [.meth "Station" "__eq__", .glo "want_stations", .glo "is_pipe", .glo "want_pipes", .glo "free_lines", .meth "Station" "__len__", .meth "Yard" "__len__", .glo "is_begin", .mkr "Yard", .glo "text_at", .glo "place_of", .glo "begun", .glo "beat_row", .glo "has_room", .glo "is_possible"]
def fa2 : List He.Fa := [.glo "possible", .glo "after_beat", .glo "are_sizes", .glo "want_sizes", .glo "is_state", .glo "want_state", .glo "can_be_done", .glo "fault_of", .glo "behind_run", .glo "is_run", .glo "state_behind", .glo "is_full", .glo "finished", .glo "full_run", .glo "end"]
def fa3 : List He.Fa := [.glo "flows", .glo "_law_row", .glo "_law_station", .glo "_law_plan", .glo "_law_yard", .glo "_law_wires", .glo "_law_begin", .glo "_law_row_at", .glo "_law_can", .glo "_law_able", .glo "_law_behind", .glo "_law_first_run", .glo "_law_drawn_run", .glo "_law_counts", .glo "_law_states"]
def fa4 : List He.Fa := [.meth "Yard" "__eq__", .glo "_law_ends_right", .glo "_law_less_right", .glo "_law_right", .glo "law", .glo "Station", .cls "Station", .glo "Yard", .cls "Yard", .noat "Station" "own_ins", .noat "Station" "own_outs", .noat "Station" "own_standings", .noat "Yard" "own_stations", .noat "Yard" "own_pipes", .noat "Yard" "own_exits"]
def fa5 : List He.Fa := [.noat "Yard" "own_begin", .noat "Yard" "own_into", .noat "Yard" "own_onto", .free "len", .free "isinstance", .free "all", .free "sum", .free "abs", .free "max", .free "min", .free "divmod", .free "repr", .free "int", .free "str", .free "tuple"]
def fa6 : List He.Fa := [.free "list", .free "zip", .free "range", .free "dict", .free "bool", .free "enumerate", .free "sorted", .int "MOST_STANDINGS" 4, .int "MOST_GIVEN" 2, .int "MOST_TICKS" 9, .int "MOST_CONTENT" 3, .int "MOST_SIZE" 3, .int "MOST_STREAM" 1000, .glo "SIGNS", .glo "LINES"]
def fa : List He.Fa := fa0 ++ fa1 ++ fa2 ++ fa3 ++ fa4 ++ fa5 ++ fa6
def fn0 : List He.DefD := [⟨("is_text", none), "is_text", "is_text", defArgs (top 6), defBody (top 6), defScope (top 6), [], []⟩, ⟨("is_text_of", none), "is_text_of", "is_text_of", defArgs (top 8), defBody (top 8), defScope (top 8), [], []⟩, ⟨("want_stream", none), "want_stream", "want_stream", defArgs (top 47), defBody (top 47), defScope (top 47), [], []⟩, ⟨("_law_draw", none), "_law_draw", "_law_draw", defArgs (top 71), defBody (top 71), defScope (top 71), [], []⟩, ⟨("_law_pick", none), "_law_pick", "_law_pick", defArgs (top 72), defBody (top 72), defScope (top 72), [], []⟩, ⟨("_law_pot", none), "_law_pot", "_law_pot", defArgs (top 70), defBody (top 70), defScope (top 70), [], []⟩]
def fn1 : List He.DefD := [⟨("_law_stream", none), "_law_stream", "_law_stream", defArgs (top 84), defBody (top 84), defScope (top 84), [], []⟩, ⟨("is_integer", none), "is_integer", "is_integer", defArgs (top 3), defBody (top 3), defScope (top 3), [], []⟩, ⟨("is_count", none), "is_count", "is_count", defArgs (top 4), defBody (top 4), defScope (top 4), [], []⟩, ⟨("is_below", none), "is_below", "is_below", defArgs (top 5), defBody (top 5), defScope (top 5), [], []⟩, ⟨("is_list", none), "is_list", "is_list", defArgs (top 7), defBody (top 7), defScope (top 7), [], []⟩, ⟨("is_row", none), "is_row", "is_row", defArgs (top 31), defBody (top 31), defScope (top 31), [], []⟩]
def fn2 : List He.DefD := [⟨("are_read", none), "are_read", "are_read", defArgs (top 32), defBody (top 32), defScope (top 32), [], []⟩, ⟨("is_standing_told", none), "is_standing_told", "is_standing_told", defArgs (top 33), defBody (top 33), defScope (top 33), [], []⟩, ⟨("Station", some "__init__"), "__init__", "Station.__init__", defArgs (inClass (top 35) 0), defBody (inClass (top 35) 0), defScope (inClass (top 35) 0), [], []⟩, ⟨("Station", some "__eq__"), "__eq__", "Station.__eq__", defArgs (inClass (top 35) 7), defBody (inClass (top 35) 7), defScope (inClass (top 35) 7), [], []⟩, ⟨("want_stations", none), "want_stations", "want_stations", defArgs (top 37), defBody (top 37), defScope (top 37), [], []⟩, ⟨("is_pipe", none), "is_pipe", "is_pipe", defArgs (top 38), defBody (top 38), defScope (top 38), [], []⟩]
def fn3 : List He.DefD := [⟨("want_pipes", none), "want_pipes", "want_pipes", defArgs (top 39), defBody (top 39), defScope (top 39), [], []⟩, ⟨("free_lines", none), "free_lines", "free_lines", defArgs (top 40), defBody (top 40), defScope (top 40), [], []⟩, ⟨("Station", some "__len__"), "__len__", "Station.__len__", defArgs (inClass (top 35) 6), defBody (inClass (top 35) 6), defScope (inClass (top 35) 6), [], []⟩, ⟨("Yard", some "__len__"), "__len__", "Yard.__len__", defArgs (inClass (top 42) 8), defBody (inClass (top 42) 8), defScope (inClass (top 42) 8), [], []⟩, ⟨("is_begin", none), "is_begin", "is_begin", defArgs (top 41), defBody (top 41), defScope (top 41), [], []⟩, ⟨("Yard", some "__init__"), "__init__", "Yard.__init__", defArgs (inClass (top 42) 2), defBody (inClass (top 42) 2), defScope (inClass (top 42) 2), [.non], []⟩]
def fn4 : List He.DefD := [⟨("Yard", some "__len__"), "__len__", "Yard.__len__", defArgs (inClass (top 42) 8), defBody (inClass (top 42) 8), defScope (inClass (top 42) 8), [], []⟩, ⟨("text_at", none), "text_at", "text_at", defArgs (top 53), defBody (top 53), defScope (top 53), [], []⟩, ⟨("place_of", none), "place_of", "place_of", defArgs (top 34), defBody (top 34), defScope (top 34), [], []⟩, ⟨("begun", none), "begun", "begun", defArgs (top 52), defBody (top 52), defScope (top 52), [], []⟩, ⟨("beat_row", none), "beat_row", "beat_row", defArgs (top 54), defBody (top 54), defScope (top 54), [], []⟩, ⟨("has_room", none), "has_room", "has_room", defArgs (top 55), defBody (top 55), defScope (top 55), [], []⟩]
def fn5 : List He.DefD := [⟨("is_possible", none), "is_possible", "is_possible", defArgs (top 56), defBody (top 56), defScope (top 56), [], []⟩, ⟨("possible", none), "possible", "possible", defArgs (top 57), defBody (top 57), defScope (top 57), [], []⟩, ⟨("after_beat", none), "after_beat", "after_beat", defArgs (top 58), defBody (top 58), defScope (top 58), [], []⟩, ⟨("are_sizes", none), "are_sizes", "are_sizes", defArgs (top 48), defBody (top 48), defScope (top 48), [], []⟩, ⟨("want_sizes", none), "want_sizes", "want_sizes", defArgs (top 49), defBody (top 49), defScope (top 49), [], []⟩, ⟨("is_state", none), "is_state", "is_state", defArgs (top 50), defBody (top 50), defScope (top 50), [], []⟩]
def fn6 : List He.DefD := [⟨("want_state", none), "want_state", "want_state", defArgs (top 51), defBody (top 51), defScope (top 51), [], []⟩, ⟨("can_be_done", none), "can_be_done", "can_be_done", defArgs (top 59), defBody (top 59), defScope (top 59), [.non], []⟩, ⟨("is_list", none), "is_list", "is_list", defArgs (top 7), defBody (top 7), defScope (top 7), [], []⟩, ⟨("fault_of", none), "fault_of", "fault_of", defArgs (top 60), defBody (top 60), defScope (top 60), [], []⟩, ⟨("fault_of", none), "fault_of", "fault_of", defArgs (top 60), defBody (top 60), defScope (top 60), [], []⟩, ⟨("fault_of", none), "fault_of", "fault_of", defArgs (top 60), defBody (top 60), defScope (top 60), [], []⟩]
def fn7 : List He.DefD := [⟨("behind_run", none), "behind_run", "behind_run", defArgs (top 61), defBody (top 61), defScope (top 61), [], []⟩, ⟨("is_run", none), "is_run", "is_run", defArgs (top 62), defBody (top 62), defScope (top 62), [.non], []⟩, ⟨("state_behind", none), "state_behind", "state_behind", defArgs (top 63), defBody (top 63), defScope (top 63), [.non], []⟩, ⟨("is_full", none), "is_full", "is_full", defArgs (top 64), defBody (top 64), defScope (top 64), [.non], []⟩, ⟨("finished", none), "finished", "finished", defArgs (top 65), defBody (top 65), defScope (top 65), [.int 20000], []⟩, ⟨("full_run", none), "full_run", "full_run", defArgs (top 66), defBody (top 66), defScope (top 66), [.non], []⟩]
def fn8 : List He.DefD := [⟨("end", none), "end", "end", defArgs (top 67), defBody (top 67), defScope (top 67), [.non], []⟩, ⟨("flows", none), "flows", "flows", defArgs (top 68), defBody (top 68), defScope (top 68), [], []⟩, ⟨("_law_row", none), "_law_row", "_law_row", defArgs (top 73), defBody (top 73), defScope (top 73), [], []⟩, ⟨("_law_station", none), "_law_station", "_law_station", defArgs (top 74), defBody (top 74), defScope (top 74), [], []⟩, ⟨("_law_plan", none), "_law_plan", "_law_plan", defArgs (top 75), defBody (top 75), defScope (top 75), [], []⟩, ⟨("_law_yard", none), "_law_yard", "_law_yard", defArgs (top 76), defBody (top 76), defScope (top 76), [], []⟩]
def fn9 : List He.DefD := [⟨("_law_wires", none), "_law_wires", "_law_wires", defArgs (top 77), defBody (top 77), defScope (top 77), [], []⟩, ⟨("_law_begin", none), "_law_begin", "_law_begin", defArgs (top 78), defBody (top 78), defScope (top 78), [], []⟩, ⟨("_law_row_at", none), "_law_row_at", "_law_row_at", defArgs (top 79), defBody (top 79), defScope (top 79), [], []⟩, ⟨("_law_can", none), "_law_can", "_law_can", defArgs (top 80), defBody (top 80), defScope (top 80), [], []⟩, ⟨("_law_able", none), "_law_able", "_law_able", defArgs (top 81), defBody (top 81), defScope (top 81), [], []⟩, ⟨("_law_behind", none), "_law_behind", "_law_behind", defArgs (top 82), defBody (top 82), defScope (top 82), [], []⟩]
def fn10 : List He.DefD := [⟨("_law_first_run", none), "_law_first_run", "_law_first_run", defArgs (top 83), defBody (top 83), defScope (top 83), [], []⟩, ⟨("_law_drawn_run", none), "_law_drawn_run", "_law_drawn_run", defArgs (top 86), defBody (top 86), defScope (top 86), [], []⟩, ⟨("_law_counts", none), "_law_counts", "_law_counts", defArgs (top 87), defBody (top 87), defScope (top 87), [], []⟩, ⟨("_law_states", none), "_law_states", "_law_states", defArgs (top 85), defBody (top 85), defScope (top 85), [], []⟩, ⟨("fault_of", none), "fault_of", "fault_of", defArgs (top 60), defBody (top 60), defScope (top 60), [], []⟩, ⟨("is_run", none), "is_run", "is_run", defArgs (top 62), defBody (top 62), defScope (top 62), [.non], []⟩]
def fn11 : List He.DefD := [⟨("Yard", some "__eq__"), "__eq__", "Yard.__eq__", defArgs (inClass (top 42) 9), defBody (inClass (top 42) 9), defScope (inClass (top 42) 9), [], []⟩, ⟨("_law_ends_right", none), "_law_ends_right", "_law_ends_right", defArgs (top 88), defBody (top 88), defScope (top 88), [], []⟩, ⟨("_law_less_right", none), "_law_less_right", "_law_less_right", defArgs (top 89), defBody (top 89), defScope (top 89), [], []⟩, ⟨("_law_right", none), "_law_right", "_law_right", defArgs (top 90), defBody (top 90), defScope (top 90), [], []⟩, ⟨("law", none), "law", "law", defArgs (top 91), defBody (top 91), defScope (top 91), [], []⟩]
def fn : List He.DefD := fn0 ++ fn1 ++ fn2 ++ fn3 ++ fn4 ++ fn5 ++ fn6 ++ fn7 ++ fn8 ++ fn9 ++ fn10 ++ fn11
def prs0 : List PrD := []
def prs : List PrD := prs0
def exs0 : List (PySem.W.Frag → Bool) := [fun K => tupA K (He.ga K "SIGNS") [.str "0", .str "1"], fun K => kvB K (He.ga K "LINES") "1", fun K => tupA K (kvA K (He.ga K "LINES") "1") [.int 0], fun K => kvB K (He.ga K "LINES") "2", fun K => tupA K (kvA K (He.ga K "LINES") "2") [.int 1], fun K => kvB K (He.ga K "LINES") "12", fun K => tupA K (kvA K (He.ga K "LINES") "12") [.int 0, .int 1], fun K => isaB K (He.ga K "Station"), fun K => isaB K (He.ga K "Yard"), fun K => creB K (He.ga K "Yard")]
def exs1 : List (PySem.W.Frag → Bool) := [fun K => cvB K (He.ga K "Yard") "MOST_STATIONS" (.int 12), fun K => He.conB K "Yard" "MOST_EXITS" (.int 3), fun K => He.eqO (PySem.W.findIn K (.ref (He.ga K "Station")) "__ne__") (some (some (.builtin "object.__ne__"))), fun K => He.eqO (PySem.W.findIn K (.ref (He.ga K "Yard")) "__ne__") (some (some (.builtin "object.__ne__")))]
def exs : List (PySem.W.Frag → Bool) := exs0 ++ exs1
def tbs : List He.Tab := [(fun K => He.ga K "LINES", ["1", "2", "12"])]
def hd : Hd := ⟨dsN, csN, tpN, fa, fn, tbs, prs, fun K => exs.all fun e => e K⟩
abbrev R : PySem.W.OpenRow := PySem.W.OpenLaw.row PySem.Challenge.rw_flowyard_k15_whole_one_end_by_all_states
abbrev qv : Program := PySem.W.view R.prog [91]
noncomputable abbrev rn (w : World) (os : OsState) := HandSHeadRun.endF (HandSHeadRun.stepQ (HandSHeadRun.denQ HandSHeadRun.tabQ) R.prog w) 20000 R.prog w os
abbrev wF (w : World) : World := w.withFollow "special-get-raises" false
abbrev wT (w : World) : World := w.withFollow "special-get-raises" true
end FYH

set_option Elab.async false
set_option linter.all false
set_option maxRecDepth 100000
set_option maxHeartbeats 0
namespace FYH
open PySem PySem.W PySem.Calls PySem.Spec PyProof.Rows L2
theorem runF (w : World) (os : OsState) : (rn (wF w) os).map (fun s => (HandSHeadRun.looksF R.prog (boot_heap (wF w).params) s.abs, HandSHeadRun.seenQ qv nms (importedModules R.prog.main.body) (fun s => PySem.W.xlAt qv [] s && PySem.W.recOk R.toRowW.records s) s.abs, hd.ob s)) = some (true, PySem.W.openGood qv nms, hd.val (wF w)) := by
  kernel_rfl
end FYH

set_option Elab.async false
set_option linter.all false
set_option maxRecDepth 100000
set_option maxHeartbeats 0
namespace FYH
open PySem PySem.W PySem.Calls PySem.Spec PyProof.Rows L2
theorem runT (w : World) (os : OsState) : (rn (wT w) os).map (fun s => (HandSHeadRun.looksF R.prog (boot_heap (wT w).params) s.abs, HandSHeadRun.seenQ qv nms (importedModules R.prog.main.body) (fun s => PySem.W.xlAt qv [] s && PySem.W.recOk R.toRowW.records s) s.abs, hd.ob s)) = some (true, PySem.W.openGood qv nms, hd.val (wT w)) := by
  kernel_rfl
end FYH

set_option Elab.async false
set_option linter.all false
set_option maxRecDepth 100000
set_option maxHeartbeats 0
namespace FYH
open PySem PySem.Spec PyProof.Rows L2
theorem run (w : World) : HandSHeadRun.RunEq R qv hd.hk hd.ob 20000 nms w := PySem.W.byRow2 "special-get-raises" (P := fun w => HandSHeadRun.RunEq R qv hd.hk hd.ob 20000 nms w) (fun w os => runF w os) (fun w os => runT w os) w
end FYH

set_option Elab.async false
set_option linter.all false
set_option maxRecDepth 100000
set_option maxHeartbeats 400000
/-! dicts whose keys are nested tuples (states, rests): display of one pair, in, d[k], d[k] = v -/
namespace FYR
open PySem PySem.Spec PyProof.Rows L2
mutual
/-- the value v is the key k -/
inductive NV (H : Hp) : NestedKey → V → Prop
  | non : NV H .none .non
  | num (i : Int) : NV H (.num i) (.int i)
  | text (x : Str) : NV H (.text x) (.str x)
  | tup {a : Addr} {vs : List V} {ks : List NestedKey} : H a = some (.tup vs) → NVs H ks vs → NV H (.tup ks) (.ref a)
inductive NVs (H : Hp) : List NestedKey → List V → Prop
  | nil : NVs H [] []
  | cons {k : NestedKey} {v : V} {ks : List NestedKey} {vs : List V} : NV H k v → NVs H ks vs → NVs H (k :: ks) (v :: vs)
end
mutual
theorem NV.keep {H H' : Hp} (t : ∀ a xs, H a = some (.tup xs) → H' a = some (.tup xs)) : ∀ (k : NestedKey) {v : V}, NV H k v → NV H' k v
  | .none, _, h => by cases h; exact .non
  | .num _, _, h => by cases h; exact .num _
  | .text _, _, h => by cases h; exact .text _
  | .tup ks, _, h => by
    cases h with
    | tup e r => exact .tup (t _ _ e) (NVs.keep t ks r)
theorem NVs.keep {H H' : Hp} (t : ∀ a xs, H a = some (.tup xs) → H' a = some (.tup xs)) : ∀ (ks : List NestedKey) {vs : List V}, NVs H ks vs → NVs H' ks vs
  | [], _, h => by cases h; exact .nil
  | k :: ks, _, h => by
    cases h with
    | cons a b => exact .cons (NV.keep t k a) (NVs.keep t ks b)
end
mutual
theorem NV.is {P : Program} {w : World} {H : Hp} {h : Heap} (ok : HOk P w H h) : ∀ (k : NestedKey) {v : V} {u : Value}, NV H k v → RelV v u → NestedIs h k u
  | .none, _, _, x, r => by cases x; cases r; exact .none
  | .num i, _, _, x, r => by cases x; obtain ⟨t, rfl⟩ := r; exact .int i t
  | .text y, _, _, x, r => by cases x; obtain ⟨t, rfl⟩ := r; exact .text y t
  | .tup ks, _, _, x, r => by
    cases x with
    | tup e q =>
      cases r
      obtain ⟨_, its, rv, o, h1, h2, n, h3⟩ := (show ObjOk P w H h _ (.tup _) from ok _ _ e)
      exact .tup h1 h2 h3 (by simpa using NVs.is ok ks q rv)
theorem NVs.is {P : Program} {w : World} {H : Hp} {h : Heap} (ok : HOk P w H h) : ∀ (ks : List NestedKey) {vs : List V} {us : List Value}, NVs H ks vs → Vals vs us → NestedAll h ks us
  | [], _, _, x, r => by cases x; cases r; exact .nil
  | k :: ks, _, _, x, r => by
    cases x with
    | cons a b =>
      cases r with
      | cons ra rb => exact .cons (NV.is ok k a ra) (NVs.is ok ks b rb)
end
/-- a dict object by its entries -/
def NO (w : World) (d : Addr) (xs : List (NestedKey × Addr × Value)) : HO := .ext fun h => (d == sysModules) = false ∧ ∃ o es ep, h.get? d = some o ∧ o.ExactDict ∧ o.data = .dict es ep ∧ es.toList = xs.map fun x => (⟨x.1.hash w, .ref x.2.1, x.2.2⟩ : DictEntry)
theorem no_ne {w : World} {d : Addr} {xs : List (NestedKey × Addr × Value)} {ys : List V} : NO w d xs ≠ .tup ys := fun z => nomatch z
abbrev NT (H : Hp) : List (NestedKey × V) → List (NestedKey × Addr × Value) → Prop := Paired fun (p : NestedKey × V) (q : NestedKey × Addr × Value) => p.1 = q.1 ∧ NV H p.1 (.ref q.2.1) ∧ p.1.depth ≤ 8 ∧ RelV p.2 q.2.2
/-- at d a dict of the pairs kvs -/
def ND (w : World) (H : Hp) (d : Addr) (kvs : List (NestedKey × V)) : Prop := ∃ xs, H d = some (NO w d xs) ∧ NT H kvs xs ∧ (kvs.map (·.1)).Nodup ∧ kvs.length ≤ sizeLine
def valN (kvs : List (NestedKey × V)) (k : NestedKey) : Option V := (kvs.find? fun p => decide (p.1 = k)).map (·.2)
def putN (kvs : List (NestedKey × V)) (k : NestedKey) (v : V) : List (NestedKey × V) := if (valN kvs k).isSome then kvs.map (fun p => if p.1 = k then (p.1, v) else p) else kvs ++ [(k, v)]
theorem NT.keep {H H' : Hp} (t : ∀ a xs, H a = some (.tup xs) → H' a = some (.tup xs)) : ∀ {kvs : List (NestedKey × V)} {xs : List (NestedKey × Addr × Value)}, NT H kvs xs → NT H' kvs xs
  | _, _, .nil => .nil
  | _, _, .cons ⟨a, b, c, d⟩ q => .cons ⟨a, NV.keep t _ b, c, d⟩ (NT.keep t q)
theorem ND.keep {w : World} {H H' : Hp} {d : Addr} {kvs : List (NestedKey × V)} (h : ND w H d kvs) (hd : ∀ o, H d = some o → H' d = some o) (t : ∀ a xs, H a = some (.tup xs) → H' a = some (.tup xs)) : ND w H' d kvs := by
  obtain ⟨xs, e, r, n, l⟩ := h
  exact ⟨xs, hd _ e, r.keep t, n, l⟩
theorem NT.keys {H : Hp} : ∀ {kvs : List (NestedKey × V)} {xs : List (NestedKey × Addr × Value)}, NT H kvs xs → kvs.map (·.1) = xs.map (·.1)
  | _, _, .nil => rfl
  | _, _, .cons h q => by rw [List.map_cons, List.map_cons, h.1, NT.keys q]
theorem NT.len {H : Hp} {kvs : List (NestedKey × V)} {xs : List (NestedKey × Addr × Value)} (r : NT H kvs xs) : kvs.length = xs.length := Paired.length r
theorem NT.val {H : Hp} (k : NestedKey) : ∀ {kvs : List (NestedKey × V)} {xs : List (NestedKey × Addr × Value)}, NT H kvs xs → RelO (valN kvs k) ((atKey xs k).map (·.2))
  | _, _, .nil => True.intro
  | p :: kvs, q :: xs, .cons h r => by
    have ih := NT.val k r
    unfold valN atKey at ih ⊢
    rw [List.find?_cons, List.find?_cons, ← h.1]
    by_cases e : p.1 = k
    · rw [decide_eq_true e]; exact h.2.2.2
    · rw [decide_eq_false e]; exact ih
theorem NT.is {P : Program} {w : World} {H : Hp} {h : Heap} (ok : HOk P w H h) : ∀ {kvs : List (NestedKey × V)} {xs : List (NestedKey × Addr × Value)}, NT H kvs xs → ∀ x ∈ xs, (nestedKind P w).is h x.1 x.2.1
  | _, _, .nil, x, hx => nomatch hx
  | _, _, .cons h r, x, hx => by
    rcases List.mem_cons.mp hx with e | hx
    · rw [e, ← h.1]
      exact ⟨NV.is ok _ h.2.1 rfl, h.2.2.1⟩
    · exact NT.is ok r x hx
theorem nd_of {P : Program} {w : World} {H : Hp} {h : Heap} {d : Addr} {xs : List (NestedKey × Addr × Value)} {kvs : List (NestedKey × V)} (ok : HOk P w H h) (e : H d = some (NO w d xs)) (r : NT H kvs xs) (n : (kvs.map (·.1)).Nodup) : (d == sysModules) = false ∧ h.DictOfH (nestedKind P w) d xs := by
  obtain ⟨⟨hs, o, es, ep, h1, h2, h3, h4⟩, _⟩ := (show ObjOk P w H h d (NO w d xs) from ok d _ e)
  exact ⟨hs, o, es, ep, h1, h2, h3, h4, r.is ok, by rw [← r.keys]; exact n⟩
theorem no_ok {P : Program} {w : World} {H : Hp} {h : Heap} {d : Addr} {xs : List (NestedKey × Addr × Value)} (hs : (d == sysModules) = false) (dd : h.DictOfH (nestedKind P w) d xs) : ObjOk P w H h d (NO w d xs) := by
  obtain ⟨o, es, ep, h1, h2, h3, h4, _⟩ := dd
  exact ⟨⟨hs, o, es, ep, h1, h2, h3, h4⟩, ⟨o, h1⟩, fun g1 g2 ⟨z, o, es, ep, a, b, c, e⟩ k => ⟨z, o, es, ep, k _ a, b, c, e⟩⟩
theorem putN_keys {kvs : List (NestedKey × V)} {k : NestedKey} {v : V} (n : (kvs.map (·.1)).Nodup) : ((putN kvs k v).map (·.1)).Nodup := by
  unfold putN
  split
  · rw [List.map_map]
    have : ((fun p : NestedKey × V => p.1) ∘ fun p : NestedKey × V => if p.1 = k then (p.1, v) else p) = fun p => p.1 := by
      funext p; simp only [Function.comp]; split <;> rfl
    rw [this]; exact n
  · rename_i z
    rw [List.map_append, List.nodup_append]
    refine ⟨n, by simp, fun a ha b hb => ?_⟩
    have hb' : b = k := by simpa using hb
    subst hb'
    intro e
    subst e
    obtain ⟨p, hp, rfl⟩ := List.mem_map.mp ha
    apply z
    unfold valN
    rw [Option.isSome_map, List.find?_isSome]
    exact ⟨p, hp, by simp⟩
theorem putN_len (kvs : List (NestedKey × V)) (k : NestedKey) (v : V) : (putN kvs k v).length ≤ kvs.length + 1 := by
  unfold putN
  split
  · rw [List.length_map]; omega
  · rw [List.length_append]; exact Nat.le_refl _
theorem NT.put {H : Hp} {b : Addr} {v : V} {u : Value} {kvs : List (NestedKey × V)} {xs : List (NestedKey × Addr × Value)} (r : NT H kvs xs) (k : NestedKey) (hk : NV H k (.ref b)) (hd : k.depth ≤ 8) (rv : RelV v u) : NT H (putN kvs k v) (storedH xs k b u) := by
  have e : (valN kvs k).isSome = (atKey xs k).isSome := by rw [(r.val k).isSome_eq, Option.isSome_map]
  unfold putN storedH
  rw [e]
  by_cases q : (atKey xs k).isSome = true
  · rw [if_pos q, if_pos q]
    clear e q
    induction r with
    | nil => exact .nil
    | @cons p q ps qs h t ih =>
      refine .cons ?_ ih
      unfold putAt
      dsimp only
      rw [← h.1]
      by_cases z : p.1 = k
      · rw [if_pos z, if_pos z]; exact ⟨rfl, h.2.1, h.2.2.1, rv⟩
      · rw [if_neg z, if_neg z]; exact h
  · rw [if_neg q, if_neg q]
    exact Paired.snoc r ⟨rfl, hk, hd, rv⟩
def tNGet (w : World) (td ti : TE) : TE := fun σ H Q => td σ H fun x H1 => ti σ H1 fun y H2 => ∃ (d b : Addr) (kvs : List (NestedKey × V)) (k : NestedKey) (v : V), x = .ref d ∧ y = .ref b ∧ ND w H2 d kvs ∧ NV H2 k (.ref b) ∧ k.depth ≤ 8 ∧ valN kvs k = some v ∧ Q v H2
def tNIn (w : World) (neg : Bool) (ti td : TE) : TE := fun σ H Q => ti σ H fun y H1 => td σ H1 fun x H2 => ∃ (d b : Addr) (kvs : List (NestedKey × V)) (k : NestedKey), x = .ref d ∧ y = .ref b ∧ ND w H2 d kvs ∧ NV H2 k (.ref b) ∧ k.depth ≤ 8 ∧ Q (.bl (if neg = true then !(valN kvs k).isSome else (valN kvs k).isSome)) H2
def sNPut (w : World) (td ti tv : TE) : TS := fun D σ H => tv σ H fun v H1 => td σ H1 fun x H2 => ti σ H2 fun y H3 => ∃ (d b : Addr) (kvs : List (NestedKey × V)) (k : NestedKey), x = .ref d ∧ y = .ref b ∧ ND w H3 d kvs ∧ NV H3 k (.ref b) ∧ k.depth ≤ 8 ∧ kvs.length < sizeLine ∧ ∀ H', ND w H' d (putN kvs k v) → (∀ a, a ≠ d → H' a = H3 a) → D.nx σ H'
/-- {k: v} -/
def tN1 (w : World) (tk tv : TE) : TE := fun σ H Q => ∀ p, H p = none → tk σ (upd H p (NO w p [])) fun x H1 => tv σ H1 fun y H2 => H2 p = some (NO w p []) ∧ ∃ (b : Addr) (k : NestedKey), x = .ref b ∧ NV H2 k (.ref b) ∧ k.depth ≤ 8 ∧ ∀ H', ND w H' p [(k, y)] → (∀ a, a ≠ p → H' a = H2 a) → Q (.ref p) H'
theorem tup_upd {w : World} {H : Hp} {d : Addr} {xs ys : List (NestedKey × Addr × Value)} (e : H d = some (NO w d xs)) : ∀ a zs, H a = some (.tup zs) → (upd H d (NO w d ys)) a = some (.tup zs) := fun a zs h => by
  rw [upd_ne (fun z => by rw [z, e] at h; exact nomatch (Option.some.inj h))]
  exact h
section
variable {X : Cx} {o i e value : Expr} {pos pos' tpos : Pos} {td ti tv tk : TE}
theorem room_n {X : Cx} (hu : X.A.units + 9 < cLine) : (nestedKind X.prog X.w).room X.A.in1 := by
  show X.A.units + 1 + 8 < cLine
  omega
theorem pe_nget (hu : X.A.units + 9 < cLine) (ho : PE X o td) (hi : PE X i ti) (hs : NoSl i) : PE X (.Subscript o i pos) (tNGet X.w td ti) := by
  refine ⟨fun pins s σ H Q I h => ?_⟩
  refine subD_of PySem.F.slot_dict_getitem.lookup hs (thn (ho.run pins s σ H _ I h) fun u s1 ⟨x, H1, I1, rx, q1⟩ => thn (hi.run pins s1 σ H1 _ I1 q1) fun iv s2 ⟨y, H2, I2, ry, d, b, kvs, k, v, ex, ey, ⟨xs, en, r, n, l⟩, hk, hd, hv, q2⟩ => ?_)
  subst ex ey
  obtain rfl : u = Value.ref d := rx
  obtain rfl : iv = Value.ref b := ry
  obtain ⟨_, dd⟩ := nd_of I2.hok en r n
  obtain ⟨w', hw, rw'⟩ := RelO.some_of (v := v) (o := (atKey xs k).map (·.2)) (by rw [← hv]; exact r.val k)
  obtain ⟨p, hp, rfl⟩ := Option.map_eq_some_iff.mp hw
  exact ⟨dd.typeIs, wpAny_getItem_heap (room_n hu) ⟨NV.is I2.hok k hk rfl, hd⟩ dd hp ⟨v, H2, I2.tok _, rw', q2⟩⟩
theorem pc_nin (hu : X.A.units + 9 < cLine) (hi : PE X i ti) (ho : PE X o td) : PC X .In i o (tNIn X.w false ti td) := by
  refine ⟨fun pins s σ H Q I h => ?_⟩
  refine thn (hi.run pins s σ H _ I h) fun iv s1 ⟨y, H1, I1, ry, q1⟩ => thn (ho.run pins s1 σ H1 _ I1 q1) fun u s2 ⟨x, H2, I2, rx, d, b, kvs, k, ex, ey, ⟨xs, en, r, n, l⟩, hk, hd, q2⟩ => ?_
  subst ex ey
  obtain rfl : u = Value.ref d := rx
  obtain rfl : iv = Value.ref b := ry
  obtain ⟨hs, dd⟩ := nd_of I2.hok en r n
  refine wpAny_in_heap (room_n hu) ⟨NV.is I2.hok k hk rfl, hd⟩ hs dd ?_
  have e := (r.val k).isSome_eq
  rw [Option.isSome_map] at e
  rw [← e]
  exact ⟨.bl _, H2, I2.tok _, rfl, q2⟩
theorem pc_nnotin (hu : X.A.units + 9 < cLine) (hi : PE X i ti) (ho : PE X o td) : PC X .NotIn i o (tNIn X.w true ti td) := by
  refine ⟨fun pins s σ H Q I h => ?_⟩
  refine thn (hi.run pins s σ H _ I h) fun iv s1 ⟨y, H1, I1, ry, q1⟩ => thn (ho.run pins s1 σ H1 _ I1 q1) fun u s2 ⟨x, H2, I2, rx, d, b, kvs, k, ex, ey, ⟨xs, en, r, n, l⟩, hk, hd, q2⟩ => ?_
  subst ex ey
  obtain rfl : u = Value.ref d := rx
  obtain rfl : iv = Value.ref b := ry
  obtain ⟨hs, dd⟩ := nd_of I2.hok en r n
  refine wpAny_notIn_heap (room_n hu) ⟨NV.is I2.hok k hk rfl, hd⟩ hs dd ?_
  have e := (r.val k).isSome_eq
  rw [Option.isSome_map] at e
  rw [← e]
  exact ⟨.bl _, H2, I2.tok _, rfl, q2⟩
theorem ps_nput (hu : X.A.units + 9 < cLine) (ho : PE X o td) (hi : PE X i ti) (hv : PE X value tv) (hs : swapsWith value (some (.Subscript o i pos')) pos.line X.env = pure false) :
    PS X (.Assign [.Subscript o i pos'] value pos) (sNPut X.w td ti tv) := by
  refine ⟨fun pins s σ H D I h => ?_⟩
  refine wpAny_Assign_Subscript (thn (hv.run pins s σ H _ I h) fun rv s1 ⟨v, H1, I1, rr, q1⟩ => thn (ho.run pins s1 σ H1 _ I1 q1) fun u s2 ⟨x, H2, I2, rx, q2⟩ => thn (hi.run pins s2 σ H2 _ I2 q2) fun iv s3 ⟨y, H3, I3, ry, d, b, kvs, k, ex, ey, ⟨xs, en, r, n, l⟩, hk, hd, hl, q3⟩ => ?_) hs
  subst ex ey
  obtain rfl : u = Value.ref d := rx
  obtain rfl : iv = Value.ref b := ry
  obtain ⟨hsm, dd⟩ := nd_of I3.hok en r n
  have hz : xs.length ≤ sizeLine := by rw [← r.len]; exact l
  refine wpAny_setItem_heap (hsz := hz) (room_n hu) ⟨NV.is I3.hok k hk rfl, hd⟩ dd fun h' dd' hb => ?_
  have he : ∃ q, h'.get? d = some q := let ⟨q, _, _, hq, _⟩ := dd'; ⟨q, hq⟩
  have I4 := d_write (t' := s3.toks + (nestedKind X.prog X.w).draws k) I3 (by rw [en]; exact True.intro) hb he (no_ok (P := X.prog) (H := upd H3 d (NO X.w d (storedH xs k b rv))) hsm dd')
  exact ⟨σ, _, I4, q3 _ ⟨_, upd_same, (r.put k hk hd rr).keep (tup_upd en), putN_keys n, by have := putN_len kvs k v; omega⟩ fun a ha => upd_ne ha⟩
theorem no_empty {P : Program} {w : World} {H : Hp} (h : Heap) (hb : sysModules < h.objs.size) : ObjOk P w H (h.push { cls := .type "dict", data := .dict #[] }) h.objs.size (NO w h.objs.size []) :=
  no_ok (beq_eq_false_iff_ne.mpr (Ne.symm (Nat.ne_of_lt hb))) (Heap.DictOfH.new h)
theorem pe_disp1N (hu : X.A.units + 8 < cLine) (hk : PE X e tk) (hv : PE X value tv) : PE X (.Dict [some e] [value] pos) (tN1 X.w tk tv) := by
  refine ⟨fun pins s σ H Q I q => ?_⟩
  have hn := I.hok.fresh (Nat.le_refl s.heap.objs.size)
  have I1 := I.laid (a := s.heap.objs.size) (o := NO X.w s.heap.objs.size []) (h' := s.heap.push { cls := .type "dict", data := .dict #[] }) (t' := s.toks) (fun _ _ q => Heap.get?_push_of_some _ q) (Nat.le_refl _) (no_empty s.heap I.big)
  have pr : PPs X pos [some e] [value] [(tk, tv)] := pps_cons hk hv pps_nil
  have hp : (pairTrees [some e] [value] X.env pos).length = 1 := pairTrees_length _ _ _ _ rfl rfl
  have h0 : pairTrees [some e] [value] X.env pos ≠ [] := fun z => by rw [z] at hp; cases hp
  have run := pr.run pins _ σ _ (fun ps H2 => match ps with
    | [(x, y)] => H2 s.heap.objs.size = some (NO X.w s.heap.objs.size []) ∧ ∃ (b : Addr) (k : NestedKey), x = .ref b ∧ NV H2 k (.ref b) ∧ k.depth ≤ 8 ∧ ∀ H', ND X.w H' s.heap.objs.size [(k, y)] → (∀ a, a ≠ s.heap.objs.size → H' a = H2 a) → Q (.ref s.heap.objs.size) H'
    | _ => False) I1 (q _ hn)
  rw [arm_eval_Dict, zip_pairTrees [some e] [value] X.env pos rfl rfl, dictDisplay_pairs _ h0 (by rw [hp]; exact Nat.le_of_ble_eq_true rfl)]
  refine wpAny_bind (wpAny_standAt (wpAny_bind (wpAny_subDictH (knd := nestedKind X.prog X.w) hu (by rw [hp]; exact Nat.le_of_ble_eq_true rfl) (thn run fun ws s2 ⟨ps, H2, I2, rel, q2⟩ => ?_))))
  cases rel with
  | nil => exact q2.elim
  | @cons p0 w0 pr0 wr0 h1 t =>
    cases t with
    | cons _ _ => exact q2.elim
    | nil =>
      obtain ⟨x, y⟩ := p0
      obtain ⟨kv, vv⟩ := w0
      obtain ⟨rk, ry⟩ := h1
      obtain ⟨en, b, k, ex, hk, hd, q3⟩ := q2
      subst ex
      obtain rfl : kv = Value.ref b := rk
      obtain ⟨hsm, dd⟩ := nd_of (kvs := []) I2.hok en .nil List.nodup_nil
      refine ⟨[(k, b, vv)], ⟨rfl, rfl, ⟨NV.is I2.hok k hk rfl, hd⟩, True.intro⟩, dd, fun h' tk' dd' hb => wpAny_pure ?_⟩
      have he : ∃ q, h'.get? s.heap.objs.size = some q := let ⟨q, _, _, hq, _⟩ := dd'; ⟨q, hq⟩
      have I4 := d_write (t' := tk') I2 (by rw [en]; exact True.intro) hb he (no_ok (P := X.prog) (H := upd H2 s.heap.objs.size (NO X.w s.heap.objs.size [(k, b, vv)])) hsm dd')
      exact ⟨.ref s.heap.objs.size, _, I4, rfl, q3 _ ⟨_, upd_same, .cons ⟨rfl, NV.keep (tup_upd en) k hk, hd, ry⟩ .nil, by simp, by simp; decide⟩ fun a ha => upd_ne ha⟩
end
end FYR

set_option Elab.async false
set_option linter.all false
set_option maxRecDepth 100000
set_option maxHeartbeats 4000000
/-! further rules: zip of two texts, extend by a tuple, text * int, calls by keywords alone -/
namespace FYR
open PySem PySem.Spec PyProof.Rows L2

/-! ### zip of two texts -/
def Itzs (x y : Str) : It :=
  ⟨fun i _ => i < min x.cps.size y.cps.size,
    fun i H v H' => ∃ (T : Addr) (c d : Nat), v = .ref T ∧ H T = none ∧ H' = upd H T (.tup [.str ⟨#[c]⟩, .str ⟨#[d]⟩]) ∧ x.cps[i]? = some c ∧ y.cps[i]? = some d,
    fun i _ => i = min x.cps.size y.cps.size⟩
theorem turn_zipS {P : Program} {w : World} {K : PySem.W.Frag} {elts : List Expr} {kk : Nat} {tpos : Pos} {x y : Str} {t u : Tok} {z TI TO i1 i2 : Addr} (S : ZipSep2 z TI TO i1 i2 [i1] [i2]) :
    Turn P w K (.Tuple elts kk tpos) (Itzs x y) (z :: TI :: TO :: ([i1] ++ [i2])) z (fun i h => IsZip h z TI TO .none ∧ IsTupOf2 h TI (.ref i1) (.ref i2) ∧ (∃ a1 a2, IsTupOf2 h TO a1 a2) ∧ h.IsStrIter i1 (strIterType x) x t i ∧ h.IsStrIter i2 (strIterType y) y u i) where
  mem := by simp
  obj := fun i h st c hc => by
    obtain ⟨hz, hTI, ⟨x', y', hTO⟩, ⟨o1, e1, _, d1⟩, ⟨o2, e2, _, d2⟩⟩ := st
    have e' : c = z ∨ c = TI ∨ c = TO ∨ c = i1 ∨ c = i2 := by simpa using hc
    rcases e' with q | q | q | q | q
    · rw [q]; exact ⟨_, hz, fun v q => nomatch q⟩
    · rw [q]; exact ⟨_, hTI, fun v q => nomatch q⟩
    · rw [q]; exact ⟨_, hTO, fun v q => nomatch q⟩
    · rw [q]; exact ⟨o1, e1, fun v q => by rw [d1] at q; cases q⟩
    · rw [q]; exact ⟨o2, e2, fun v q => by rw [d2] at q; cases q⟩
  keep := fun i h h' st k => by
    obtain ⟨hz, hTI, ⟨x', y', hTO⟩, ⟨o1, e1, c1, d1⟩, ⟨o2, e2, c2, d2⟩⟩ := st
    exact ⟨k z (by simp) _ hz, k TI (by simp) _ hTI, ⟨x', y', k TO (by simp) _ hTO⟩, ⟨o1, k i1 (by simp) _ e1, c1, d1⟩, ⟨o2, k i2 (by simp) _ e2, c2, d2⟩⟩
  item := by
    intro X hP hw hK hc i pins s σ H E I hf st hg
    subst hP hw hK
    have hh : X.A.in1.handled = none := I.ok.hd hc
    have W := WalksT.zipD2 (prog := X.prog) (w := X.w) (A := X.A) S (Draws.text hh i1 x t) (Draws.text hh i2 y u)
    refine W.item i s _ _ hg st fun T vals h' tk hp hT ht mid hk => ?_
    obtain ⟨x1, x2, ⟨c, t1, hc1, rfl⟩, ⟨d, t2, hd1, rfl⟩, rfl⟩ := hp
    refine ⟨_, rfl, W.go elts kk tpos i T { s with heap := h', toks := tk } _ _ mid fun h'' st'' hk2 => ?_⟩
    obtain ⟨oT, eT, cT, nT, dT⟩ := ht
    have hT2 : h''.get? T = some oT := hk2 _ _ (W.apart _ _ _ mid) eT
    have new : ObjOk X.prog X.w (upd H T (.tup [.str ⟨#[c]⟩, .str ⟨#[d]⟩])) h'' T (.tup [.str ⟨#[c]⟩, .str ⟨#[d]⟩]) :=
      ⟨by show 2 ≤ sizeLine; decide, [_, _], .cons ⟨_, rfl⟩ (.cons ⟨_, rfl⟩ .nil), ⟨_, hT2, cT, nT, dT⟩⟩
    have sub : ∀ b ∈ ([z, TO, i1, i2] : List Addr), b ∈ (z :: TI :: TO :: ([i1] ++ [i2])) := fun b hb => W.sub b hb
    have I1 : Inv X pins σ (upd H T (.tup [.str ⟨#[c]⟩, .str ⟨#[d]⟩])) { s with heap := h'', toks := tk } :=
      I.turnedNew (t' := tk) (ch := [z, TO, i1, i2]) (fun c o hb q => hk2 c o hb (hk c o hb q)) (fun b hb => hf b (sub b hb)) hT new
    refine ⟨.ref T, _, I1, rfl, ⟨T, c, d, rfl, I.hok.fresh hT, rfl, hc1, hd1⟩, st'', fun b hb => ?_⟩
    have hlt : b < s.heap.objs.size := by
      obtain ⟨hz, hTI, ⟨x', y', hTO⟩, ⟨o1, e1, c1, d1⟩, ⟨o2, e2, c2, d2⟩⟩ := st
      have e' : b = z ∨ b = TI ∨ b = TO ∨ b = i1 ∨ b = i2 := by simpa using hb
      rcases e' with q | q | q | q | q
      · rw [q]; exact Heap.lt_size hz
      · rw [q]; exact Heap.lt_size hTI
      · rw [q]; exact Heap.lt_size hTO
      · rw [q]; exact Heap.lt_size e1
      · rw [q]; exact Heap.lt_size e2
    rw [upd_ne (Nat.ne_of_lt (Nat.lt_of_lt_of_le hlt hT))]
    exact (hf b hb).1
  done := by
    intro X hP hw hK hc i pins s σ H E I hf st hg
    subst hP hw hK
    have hh : X.A.in1.handled = none := I.ok.hd hc
    have W := WalksT.zipD2 (prog := X.prog) (w := X.w) (A := X.A) S (Draws.text hh i1 x t) (Draws.text hh i2 y u)
    have sub : ∀ b ∈ ([z, TO, i1, i2] : List Addr), b ∈ (z :: TI :: TO :: ([i1] ++ [i2])) := fun b hb => W.sub b hb
    have hi : i = min x.cps.size y.cps.size := hg
    subst hi
    exact W.done s _ _ st fun h' tk hk => ⟨rfl, I.turnedL (t' := tk) (ch := [z, TO, i1, i2]) (fun c o hb q => hk c o hb q) (fun b hb => hf b (sub b hb))⟩
  self := fun A i s Q E st h => wpAny_pyIter_zip st.1 h

def iZipS (ta : TA) : TI := fun σ H R => ta σ H fun vs H1 => ∃ x y, vs = [.str x, .str y] ∧ R (Itzs x y) H1
theorem pi_zipS {X : Cx} {e e2 : Expr} {ta : TA} {p pos tpos : Pos} {elts : List Expr} {kk : Nat} (hg : Gl X "zip") (hm : X.mg "zip" = none) (ha : PA X [e, e2] ta)
    (hs : starEach [e, e2] X.env = (false, eval e X.env) :: starEach [e2] X.env := by rfl) (hpl : (backTo pos (starEach [e2] X.env)).any (·.1) = false := by rfl) :
    PI X (.Tuple elts kk tpos) (.Call (.Name "zip" p) [e, e2] [] pos) (iZipS ta) := by
  refine ⟨fun pins s σ H R I h => ?_⟩
  refine Call_ (ld_blt I hg hm PyProof.Rows.boot_zip (PyProof.Rows.callWith_type1 (thn (ha.run pos pins s σ H _ I h) fun us s1 ⟨vs, H1, I1, r1, q1⟩ => ?_) hs hpl))
  obtain ⟨x, y, ex, q1⟩ := q1
  subst ex
  cases r1 with
  | cons r rr =>
    cases rr with
    | cons r' rr =>
      cases rr
      obtain ⟨t, rfl⟩ := r
      obtain ⟨u, rfl⟩ := r'
      have fresh5 : ∀ c, c ∈ ((s1.heap.objs.size + 4) :: (s1.heap.objs.size + 2) :: (s1.heap.objs.size + 3) :: ([s1.heap.objs.size] ++ [s1.heap.objs.size + 1])) → FpOk X pins H1 c := fun c hcm => by
        have e' : c = s1.heap.objs.size + 4 ∨ c = s1.heap.objs.size + 2 ∨ c = s1.heap.objs.size + 3 ∨ c = s1.heap.objs.size ∨ c = s1.heap.objs.size + 1 := by simpa using hcm
        have hle : s1.heap.objs.size ≤ c := by
          rcases e' with z | z | z | z | z
          · rw [z]; exact Nat.le_add_right _ _
          · rw [z]; exact Nat.le_add_right _ _
          · rw [z]; exact Nat.le_add_right _ _
          · rw [z]; exact Nat.le_refl _
          · rw [z]; exact Nat.le_add_right _ _
        exact I1.fpOk hle (I1.hok.fresh hle)
      refine zip_begins2 (begins_text x t) (begins_text y u) trivial trivial fun h' hz hTI hTO h1 h2 hsz hk => wpAny_pyIter_zip hz ?_
      have I2 : Inv X pins σ H1 { s1 with heap := h' } := I1.kept (t' := s1.toks) hk
      exact ⟨s1.heap.objs.size + 4, _, _, _, H1, rfl, I2, turn_zipS (x := x) (y := y) (t := t) (u := u) (zip_sep2 (fp1 := []) (fp2 := []) (by simp) (by simp)), ⟨hz, hTI, ⟨_, _, hTO⟩, ⟨_, h1, rfl, rfl⟩, ⟨_, h2, rfl, rfl⟩⟩, fresh5, q1⟩
theorem walk_zipS {x y : Str} : Walk (Itzs x y) (min x.cps.size y.cps.size) (fun _ => True) (fun i H v H' => ∃ (T : Addr) (c d : Nat), v = .ref T ∧ H T = none ∧ H' = upd H T (.tup [.str ⟨#[c]⟩, .str ⟨#[d]⟩]) ∧ x.cps[i]? = some c ∧ y.cps[i]? = some d) :=
  ⟨fun _ _ hi _ => hi, fun _ _ => rfl, fun _ _ _ _ _ _ y => y⟩

/-! ### extend by a tuple -/
theorem list_extend_tup (l : Addr) (items : Array Value) (n : Nat) (b : Addr) (items2 : Array Value) (n2 : Nat) (db : Option Addr) (sb : Array (Option Value)) (hs0 : ¬(!items.isEmpty && Builtin.List.listTooLong (items.size + items2.size)) = true) (hs1 : items.size ≤ sizeLine) (hs2 : items.size + items2.size ≤ sizeLine + 1) :
    Meets (Builtin.«list.extend» ⟨[.ref l, .ref b], []⟩) (fun _ R s => s.heap.get? l = some { cls := .type "list", dict := none, data := .seq items n, slots := #[] } ∧ s.heap.get? b = some { cls := .type "tuple", dict := db, data := .seq items2 n2, slots := sb } ∧ R (.ok (.ret Value.none)) { s with heap := s.heap.update l (Obj.mapSeq fun x => x ++ items2), toks := s.toks }) :=
  .of_wp fun prog w A R s h => by
    obtain ⟨hp, g, d, tk, os⟩ := s; obtain ⟨hl, hb, h⟩ := h; have f1 := AutoSeq1.idx_int; have f2 := AutoSeq1.sub_tuple_tuple; have f3 := AutoSeq1.sub_list_list; have f4 := AutoSeq1.sub_tuple_list; have f5 := AutoSeq1.sub_list_tuple;
    have hz' : (items ++ items2).size ≤ sizeLine + 1 := by rw [Array.size_append]; exact hs2
    wp_walk using (wpAny_updateSeq hl rfl (hz := hs1) (_hz' := hz')), AutoSeq1.wpAny_loadPart' hl, AutoSeq1.wpAny_loadPart' hb; exact ⟨_, rfl, h⟩
def rExtendT (K : PySem.W.Frag) : V → List V → Hp → VK → Prop := fun x vs H Q => ∃ l b xs zs, x = .ref l ∧ vs = [.ref b] ∧ H l = some (.lst xs) ∧ SqT K H b zs ∧ xs.length + zs.length ≤ sizeLine ∧ Q .non (upd H l (.lst (xs ++ zs)))
theorem mt_extendT {X : Cx} : MtM X "list.extend" (rExtendT X.K) := by
  intro pins s σ H x vs v us Q I rx rv h
  obtain ⟨l, b, xs, zs, rfl, rfl, hH, hB, hz, q⟩ := h
  cases rx
  obtain ⟨u, rfl, ru⟩ := rv.one
  cases ru
  obtain ⟨z, its, n, r, hl, e⟩ := I.lstM hH
  obtain ⟨its2, r2, p2, z2⟩ := I.tuple hB
  have l2 := r2.length
  obtain ⟨o2, e2, c2, n2, d2⟩ := p2
  have hsz : its.toArray.size + its2.toArray.size ≤ sizeLine := by rw [List.size_toArray, List.size_toArray]; omega
  have hlong : ¬ (!its.toArray.isEmpty && Builtin.List.listTooLong (its.toArray.size + its2.toArray.size)) = true := by
    rw [notLongL hsz, Bool.and_false]
    exact Bool.false_ne_true
  obtain ⟨cls2, db, dat2, sb⟩ := o2
  have c2' : cls2 = .type "tuple" := c2
  have d2' : dat2 = .seq its2.toArray n2 := d2
  subst c2' d2'
  refine call_meets F.slot_list_extend ⟨_, e, rfl⟩ F.entry_list_extend (F.args_list_extend_2 _ _)
    (list_extend_tup l its.toArray n b its2.toArray n2 db sb hlong (by rw [List.size_toArray]; omega) (by omega)) ⟨e, e2, ?_⟩
  refine ⟨.non, _, I.lset (its' := its ++ its2) hH e (by simp) (r.append r2) ?_, rfl, q⟩
  rw [List.length_append]
  omega

/-! ### text * int -/
def rMulS : R2 := fun x y H Q => ∃ z k, x = .str z ∧ y = .int k ∧ MulOk z k ∧ Q (.str (Txt.mul z k)) H
theorem op_mul_str {X : Cx} : OpR X (binaryOp .Mult) rMulS := by
  intro pins s σ H x y v u Q I rx ry h
  obtain ⟨z, k, rfl, rfl, hok, q⟩ := h
  obtain ⟨t, rfl⟩ := rx
  obtain ⟨t', rfl⟩ := ry
  exact SB.mul hok fun t' k => ⟨.str _, H, I.tok _, ⟨_, rfl⟩, q⟩

/-! ### f(k = v, ..) -/
section
variable {X : Cx} {CX : CXT} {k : Nat} {f C : Addr} {fd : FuncData} {ps ks : List Str} {sp : Sp} {E : XK} {x m : Str} {p pos apos kpos : Pos} {kws : List Keyword} {tk : TA} {g : List Value → List Value → List Value} {gV : List V → List V → List V}
def tCallN0 (n : Nat) (sp : Sp) (gV : List V → List V → List V) (E : XK) (tk : TA) : TE := fun σ H Q => tk σ H fun zs H2 => zs.length = n ∧ sp (gV [] zs) H2 Q E
theorem pe_callN0 (F : FnOk X.prog X.w X.K X.mg X.base CX k f fd ps sp) (hr : Room k X.A) (hg : Gl X x) (hm : X.mg x = some (.ref f)) (hk : PySem.W.keepIn X.K (.ref f) = true) (hb : KBn X.K fd ps 0 ks g gV) (hx : Passes CX X E)
    (hkw : PK X kws tk) (hall : (backToKw pos (keywordEach kws X.env)).all (·.1.isSome) = true := by rfl) (hks : (backToKw pos (keywordEach kws X.env)).filterMap (·.1) = ks := by rfl)
    (hdb : (x == ("__debug__" : Str)) = false := by decide)
    (hpl : ((backTo pos (starEach [] X.env)).any (·.1) || (backToKw pos (keywordEach kws X.env)).any (·.1.isNone)) = false := by rfl) :
    PE X (.Call (.Name x p) [] kws pos) (tCallN0 ks.length sp gV E tk) := by
  refine ⟨fun pins s σ H Q I h => ?_⟩
  refine wpAny_Call_Name_kw (ld_glob I hg hm ?_ hdb)
  refine PySem.W.callWith_KW0 (h₀ := X.base) I.ok.mod.kin hk hall ?_ hpl
  refine thn (hkw.run pos pins s σ H _ I h) fun ws s2 ⟨zs, H2, I2, rz, l2, q2⟩ => ⟨I2.kIn, ?_⟩
  rw [hks]
  exact run_fnN (us := []) (vs := []) F hr hb hx I2 .nil rz rfl l2 q2
end
end FYR

set_option Elab.async false
set_option linter.all false
set_option maxRecDepth 100000
set_option maxHeartbeats 4000000
/-! defs whose promise leans on «no repr is under way» (A.guards = some []): FnG; repr of data -/
namespace FYR
open PySem PySem.Spec PyProof.Rows L2
structure FnG (P : Program) (w : World) (K : PySem.W.Frag) (mg : Str → Option Value) (base : Heap) (k : Nat) (f : Addr) (fd : FuncData) (ps : List Str) (sp : Sp) : Prop where
  len : ∀ vs H Q E, sp vs H Q E → vs.length = ps.length
  run : ∀ (A : Around) (outer : List Env) (s : Shared) (H : Hp) (args : Args) (us : List Value) (vs : List V) (Q : VK) (E : XK), A.guards = some [] → Room k A → Env0 P w K mg base A outer s H → BindsTo s fd args (ps.zip us) → Vals vs us → sp vs H Q E →
    codeAny (model P w) A (.call (.ref f) args) (CR CX0 outer P w H s Q E) s
section
variable {P : Program} {w : World} {K : PySem.W.Frag} {mg : Str → Option Value} {base : Heap}
theorem fnG_of {x qual : Str} {st : Stmt} {f : Addr} {fd : FuncData} {N ps : List Str} {k : Nat} {sp : Sp} (F : Fun K x qual st f fd) (S : FnScope N ps (defScope st)) (len : ∀ vs H Q E, sp vs H Q E → vs.length = ps.length)
    (hbody : ∀ (cdv : Value) (A : Around) (outer : List Env) (s : Shared) (H : Hp) (vs : List V) (Q : VK) (E : XK), A.guards = some [] → Room k (A.deeper (envOfC qual (defScope st) s.heap.objs.size f cdv)) → sp vs H Q E →
      ∃ t, PSs (cxOf CX0 P w K mg base N qual (defScope st) f cdv A outer s H E).nox (defBody st) t ∧ t { nx := fun _ H' => Q .non H', rt := Q } (start N vs) H) : FnG P w K mg base (k + 1) f fd ps sp := by
  obtain ⟨oc, od, kV, doc, pm, an, cdv, ct, osl, rfl, lk, hcd⟩ := F.ex
  refine ⟨len, fun A outer s H args us vs Q E hgd hr e0 hb r hsp => ?_⟩
  have hl := len _ _ _ _ hsp
  have kin : K.In s.heap := e0.mod.kin.keeps fun b o e => (e0.bs b o e).1
  have nolim : s.heap.NoLimit := e0.mod.nolimit.keeps fun b o e => (e0.bs b o e).1
  have kinds : ∀ y ∈ ps.zip us, (defScope st).names.lookup y.1 = some .local ∨ ((defScope st).names.lookup y.1 = some .cell ∧ ((cellsFrom (s.heap.objs.size + 1) (defScope st).names []).lookup y.1).isSome = true) := by
    rintro ⟨n, v⟩ hy
    exact (S.par n (List.of_mem_zip hy).1).imp id fun q => ⟨q, PySem.W.cellsFrom_some _ _ _ (.inl q)⟩
  refine codeAny_call_function hr.depth (kin _ _ lk) rfl S.co S.gen rfl (PySem.W.codeRec_of kin hcd) (hb _ _ _ _ ?_)
  refine wpAny_newFunctionEnv_cells S.kind kinds fun env he s1 x => ?_
  subst he
  refine ⟨nolim.keeps x.toInCall.keep, codeAny_func ?_⟩
  obtain ⟨t, ht, hq⟩ := hbody cdv A outer s H vs Q E hgd (hr.deeper _) hsp
  have I : Inv (cxOf CX0 P w K mg base N qual (defScope st) f cdv A outer s H E) [] (start N vs) H s1 := inv_start S hr.hd e0 hl r x
  refine wpAny_mono (ht.nox.run [] s1 (start N vs) H _ I hq) (fun fl s' hs => ?_) fun e s' hs => hs
  cases fl with
  | ret u =>
    obtain ⟨v, σ', H', J, rv, q⟩ := hs
    exact ⟨v, H', J.os, J.bare, J.base, J.hok, rv, q⟩
  | next =>
    obtain ⟨σ', H', J, q⟩ := hs
    exact ⟨.non, H', J.os, J.bare, J.base, J.hok, rfl, q⟩
  | brk =>
    obtain ⟨_, _, _, q⟩ := hs
    exact q.elim
  | cont =>
    obtain ⟨_, _, _, q⟩ := hs
    exact q.elim
end
section
variable {X : Cx} {k : Nat} {f : Addr} {fd : FuncData} {ps : List Str} {sp : Sp} {x : Str} {p pos : Pos} {e : Expr} {es : List Expr} {t : TA}
theorem pe_callG (F : FnG X.prog X.w X.K X.mg X.base k f fd ps sp) (hgd : X.A.guards = some []) (hr : Room k X.A) (hg : Gl X x) (hm : X.mg x = some (.ref f)) (hk : PySem.W.keepIn X.K (.ref f) = true) (hb : Binds X.K fd ps [])
    (ha : PA X (e :: es) t) (hdb : (x == ("__debug__" : Str)) = false := by decide) (he : starEach (e :: es) X.env = (false, eval e X.env) :: starEach es X.env := by rfl) (hpl : (backTo pos (starEach es X.env)).any (·.1) = false := by rfl) :
    PE X (.Call (.Name x p) (e :: es) [] pos) (tCall sp [] E0 t) := by
  refine ⟨fun pins s σ H Q I h => ?_⟩
  refine wpAny_Call_Name_kw (ld_glob I hg hm ?_ hdb)
  refine PySem.W.callWith_K (h₀ := X.base) I.ok.mod.kin hk (thn (ha.run pos pins s σ H _ I h) fun us s1 ⟨vs, H1, I1, r, q⟩ => ⟨I1.kIn, ?_⟩) he hpl
  simp only [List.append_nil] at q
  show wpAny (model X.prog X.w) X.A (call (.ref f) us) (EP X pins σ Q) X.xe s1
  have hl : us.length = ps.length := by rw [← r.length]; exact F.len _ _ _ _ q
  refine wpAny_call (codeAny_mono (F.run X.A X.stack s1 H1 ⟨us, []⟩ us vs Q E0 hgd hr I1.env0 (by have z := hb s1 us I1.kIn (by rw [List.append_nil]; exact hl); rw [List.append_nil] at z; exact z) r q) fun r s' hq => ?_)
  cases r with
  | error e => exact False.elim hq
  | ok fl =>
    cases fl with
    | ret u => exact I1.after hq
    | next => exact False.elim hq
    | brk => exact False.elim hq
    | cont => exact False.elim hq

/-! ### repr of data -/
def rReprD (K : PySem.W.Frag) : List V → Hp → VK → Prop := fun xs H Q => ∃ (v : V) (d : PyData), xs = [v] ∧ Dp K H v d ∧ d.showable = true ∧ d.hasDict = false ∧ d.depth ≤ 30 ∧ d.shown.length ≤ sizeLine ∧ Q (.str d.shown) H
theorem call_reprD (hgd : X.A.guards = some []) (hr : Room k X.A) : CallR X (.builtin "repr") (rReprD X.K) := by
  intro pins s σ H xs us Q I rv h
  obtain ⟨v, d, rfl, hd, h1, h2, h3, h4, q⟩ := h
  obtain ⟨u, rfl, ru⟩ := rv.one
  have hu := hr.units
  have big : ∀ a, v = .ref a → wpAny (model X.prog X.w) X.A (call (.builtin "repr") [u]) (EP X pins σ Q) X.xe s := by
    rintro a rfl
    obtain ⟨as, rd⟩ := Dp.reads I d _ u hd ru
    cases ru
    exact repr_of_reads' rd h1 (PyData.noDict_hsm h2) hgd (by omega) (fun _ _ e => e) (fun h' t tk hk => ⟨.str _, H, I.kept (t' := tk) hk, ⟨_, rfl⟩, q⟩) h4
  cases hd with
  | non =>
    cases ru
    rw [PyData.shown_none] at q
    exact PySem.P.repr_of_none ⟨.str _, H, I.tok _, ⟨_, rfl⟩, q⟩
  | bl b =>
    cases ru
    rw [PyData.shown_bool] at q
    refine PySem.P.repr_of_bool ⟨.str _, H, I.tok _, ⟨_, rfl⟩, ?_⟩
    cases b <;> exact q
  | int i =>
    obtain ⟨t, rfl⟩ := ru
    rw [PyData.shown_int] at q
    exact PySem.P.repr_of_int (by simpa [PyData.showable] using h1) ⟨.str _, H, I.tok _, ⟨_, rfl⟩, q⟩
  | str y =>
    obtain ⟨t, rfl⟩ := ru
    rw [PyData.shown_str] at q h4
    exact PySem.P.repr_of_str ⟨.str _, H, I.tok _, ⟨_, rfl⟩, q⟩ h4
  | lst _ _ => exact big _ rfl
  | tup _ _ => exact big _ rfl
end
/-! ### the end of a law row over FnG -/
theorem law_callG {P : Program} {w : World} {K : PySem.W.Frag} {mg mb : Str → Option Value} {k : Nat} {fa a : Addr} {fd : FuncData} {x : Str} {sp : Sp} {s₁ : Shared} {vs : List Value} {ns : List Int}
    (KX : K.In s₁.heap) (hns : s₁.heap.Ns mainGlobals mg) (hb : s₁.heap.Ns builtinsNs mb) (hbb : ∀ x : Str, x ≠ "__name__" → mb x = bootBuiltins x) (hlim : s₁.heap.NoLimit) (hg : s₁.gens = #[])
    (ha : s₁.heap.get? a = some { cls := .type "list", data := .seq vs.toArray }) (hi : IntsAre vs ns) (hl : ns.length ≤ sizeLine) (hr : Room k callerA)
    (F : ∀ base : Heap, K.In base → base.Ns mainGlobals mg → FnG P w K mg base k fa fd [x] sp) (hbind : ∀ (s : Shared) (u : Value), BindsTo s fd ⟨[u], []⟩ [(x, u)])
    (hsp : ∀ H : Hp, Only H → SqL K H a (ns.map V.int) → sp [.ref a] H (fun v _ => v = .bl true) fun _ _ _ => False) :
    codeAny (model P w) callerA (.call (.ref fa) ⟨[.ref a], []⟩) (fun r s' => r = .ok (.ret (.bool true)) ∧ OldK s₁.heap s'.heap ∧ s'.os = s₁.os ∧ AllBare s'.gens) s₁ := by
  have rv := vals_ints hi
  have core : ∀ H : Hp, Only H → SqL K H a (ns.map V.int) → HOk P w H s₁.heap → (∀ b, H b ≠ none → b = a ∧ K.lookup a = none) →
      codeAny (model P w) callerA (.call (.ref fa) ⟨[.ref a], []⟩) (fun r s' => r = .ok (.ret (.bool true)) ∧ OldK s₁.heap s'.heap ∧ s'.os = s₁.os ∧ AllBare s'.gens) s₁ := by
    intro H hO hS hok hA
    have free : ∀ {b : Addr}, (∀ q : b = a, K.lookup a = none → False) → H b = none := fun {b} z => by
      cases q : H b with
      | none => rfl
      | some u =>
        obtain ⟨e1, e2⟩ := hA b (by rw [q]; simp)
        exact (z e1 e2).elim
    have nsK : ∀ {b : Addr} {m : Str → Option Value}, s₁.heap.Ns b m → (hidT s₁.heap H).Ns b m := fun {b m} ⟨o, es, ep, e, d, r⟩ =>
      ⟨o, es, ep, hidT_get e (free fun q _ => by rw [q, ha] at e; cases e; cases d), d, r⟩
    have hKb : K.In (hidT s₁.heap H) := fun b o e => hidT_get (KX b o e) (free fun q z => by rw [q, z] at e; cases e)
    have hM : Mod K mg (hidT s₁.heap H) := ⟨hKb, nsK hns, ⟨mb, nsK hb, hbb⟩, let ⟨mc, h1, h2⟩ := hlim; ⟨mc, nsK h1, h2⟩⟩
    have e0 : Env0 P w K mg (hidT s₁.heap H) callerA [] s₁ H := ⟨rfl, hM, fun b o e => of_hidT e, Nat.le_of_eq (hidT_size _ _), trivial, fun b hb => absurd (show b ∈ ([] : List Addr) from hb) (by simp), hok, .of_eq hg⟩
    refine codeAny_mono ((F _ hKb (nsK hns)).run callerA [] s₁ H ⟨[.ref a], []⟩ [.ref a] [.ref a] _ _ rfl hr e0 (hbind s₁ (.ref a)) (.cons rfl .nil) (hsp H hO hS)) fun r s' h => ?_
    cases r with
    | error e => exact False.elim h
    | ok fl =>
      cases fl with
      | next => exact False.elim h
      | brk => exact False.elim h
      | cont => exact False.elim h
      | ret u =>
        obtain ⟨v, H', os, bare, un, hok', r', q⟩ := h
        cases (show v = .bl true from q)
        cases (show u = Value.bool true from r')
        refine ⟨rfl, OldK.of_keep fun b o e => ?_, os, bare⟩
        rcases hO b with z | ⟨ob, xs, z⟩
        · exact un.keep b o e z (fun y => absurd (show b ∈ ([] : List Addr) from y) (by simp)) (by simp)
        · obtain ⟨e1, _⟩ := hok b _ z
          obtain ⟨e2, _⟩ := hok' b _ (un.frzs b ob _ z)
          rw [e] at e1
          cases e1
          exact e2
  cases hk : K.lookup a with
  | some o =>
    have e := KX a o hk
    rw [ha] at e
    cases e
    exact core (fun _ => none) (fun _ => .inl rfl) (.inr ⟨_, vs.toArray, _, hk, rfl, rfl, rfl, by rw [List.size_toArray, hi.length]; exact hl, by simpa using rv⟩) (fun b u z => nomatch z) fun b z => absurd rfl z
  | none =>
    refine core (fun b => if b = a then some (.frz { cls := .type "list", data := .seq vs.toArray } (.lst (ns.map V.int))) else none) (fun b => ?_) (.inl (.inr ⟨_, if_pos rfl⟩)) (fun b u z => ?_) fun b z => ?_
    · exact (Decidable.em (b = a)).elim (fun hb => .inr ⟨_, _, if_pos hb⟩) fun hb => .inl (if_neg hb)
    · by_cases hb : b = a
      · cases (if_pos hb).symm.trans z
        subst hb
        exact ⟨ha, by rw [List.length_map]; exact hl, vs, _, rv, ha⟩
      · cases (if_neg hb).symm.trans z
    · exact (Decidable.em (b = a)).elim (fun hb => ⟨hb, hk⟩) fun hb => absurd (if_neg hb) z
theorem walkG {l : PySem.W.OpenLaw} {n k : Nat} {q : Program} {loose : List Str} {XP : (Str → Option Value) → Heap → Prop} {YP : World → Heap → Prop} {d : DefRec} {K : Params → PySem.W.Frag} {sp : PySem.W.Frag → Sp} {x : Str}
    (hn : l.most = some n) (hn2 : n ≤ sizeLine) (hdf : d.params.defaults = []) (hr : Room k callerA)
    (hY : ∀ (w : World) (h : Heap), YP w h → (K w.params).In h)
    (F : ∀ (w : World) (mg : Str → Option Value) (fa : Addr) (h : Heap), (K w.params).In h → h.Ns mainGlobals mg → mg d.name = some (.ref fa) →
      ∃ fd : FuncData, (∀ (s : Shared) (u : Value), BindsTo s fd ⟨[u], []⟩ [(x, u)]) ∧
        ∀ base : Heap, (K w.params).In base → base.Ns mainGlobals mg → FnG l.prog w (K w.params) mg base k fa fd [x] (sp (K w.params)))
    (hsp : ∀ (K : PySem.W.Frag) (H : Hp) (a : Addr) (ns : List Int), ns.length ≤ n → Only H → SqL K H a (ns.map V.int) → sp K [.ref a] H (fun v _ => v = .bl true) fun _ _ _ => False) :
    PySem.W.WalkO q loose XP YP l.row.toRowW d [] (fun f vs => PySem.call f vs) := by
  refine Att.attach_call hn hdf fun w s₀ s₁ mg mb fa o pm cd doc a vs ns G Y ho hd hcd hmg hobj hints hlen hg => ?_
  obtain ⟨fd, hb, hF⟩ := F w mg fa _ (hY w _ Y) G.T.g hmg
  exact law_callG (hY w _ Y) G.T.g G.T.b G.T.builtins G.T.nolimit hg hobj hints (Nat.le_trans hlen hn2) hr hF hb fun H hO hS => hsp _ H a ns hlen hO hS
end FYR

set_option Elab.async false
set_option linter.all false
set_option maxRecDepth 100000
set_option maxHeartbeats 4000000
/-! own exceptions over RuntimeError whose __init__ is a def -/
namespace FYR
open PySem PySem.Spec PyProof.Rows L2
abbrev aeT : List Value := [.type "RuntimeError", .type "Exception", .type "BaseException", .type "object"]
structure OexA (K : PySem.W.Frag) (C : Addr) : Prop where
  cls : ∃ nm q N bs bm sn sub ab col dd k0 k1 k2 k3 k5, K.lookup C = some (excClassObj nm q C N bs bm true sn sub ab col dd k0 k1 k2 k3 k5 "RuntimeError.__new__") ∧ PySem.W.excTail aeT bm = true
  sa : PySem.W.findIn K (.ref C) "__setattr__" = some (some (.builtin "object.__setattr__"))
  exC : PySem.W.subIn K (.ref C) (.type "BaseException") = some true
  tyC : PySem.W.typeIn K (.ref C) = some (.type "type")
  kC : PySem.W.keepIn K (.ref C) = true
section
variable {X : Cx} {pins : List (Addr × Obj)} {σ : L2.St} {H : Hp} {s : Shared} {a C dx : Addr} {f : Str} {y : V} {u : Value} {fs : List (Str × V)} {Q : Unit → Shared → Prop} {E : Value → Shared → Prop} {A : Around}
/-- what the class's record says -/
theorem OexA.recd {K : PySem.W.Frag} (T : OexA K C) : ∃ cd, PySem.W.clsIn K C = some cd ∧ cd.hasDict = true ∧ PySem.W.excOver K C aeT = true := by
  obtain ⟨nm, q, N, bs, bm, sn, sub, ab, col, dd, k0, k1, k2, k3, k5, hC, hbm⟩ := T.cls
  have hcl : PySem.W.clsIn K C = some { name := nm, bases := bs, mro := .ref C :: bm, ns := N, qualname := q, hasDict := true, slotNames := sn, subclasses := sub, abstract := ab, collection := col, hasDel := false } := by
    unfold PySem.W.clsIn
    rw [hC] <;> rfl
  refine ⟨_, hcl, rfl, ?_⟩
  unfold PySem.W.excOver
  rw [hcl]
  show (C == C && PySem.W.excTail aeT bm) = true
  rw [hbm]
  simp
theorem taker_none {K : PySem.W.Frag} (h : PySem.W.findIn K (.ref C) f = some none) : PySem.W.takerIn K C f = some none := by
  unfold PySem.W.takerIn
  rw [h]
  rfl
/-- the store of the first field -/
theorem ast_new (T : OexA X.K C) (I : Inv X pins σ H s) (e : H a = some (exo a C none)) (hno : PySem.W.findIn X.K (.ref C) f = some none) (ry : RelV y u)
    (h : ∀ dx s', H dx = none → dx ≠ a → Inv X pins σ (upd (upd H dx (exd dx [(f, y)])) a (exo a C (some dx))) s' → Q () s') : wpAny (model X.prog X.w) A (setAttr (.ref a) f u) Q E s := by
  obtain ⟨cd, hcd, hhd, hov⟩ := T.recd
  obtain ⟨t1, ho⟩ := exo_at I.hok e
  obtain ⟨hp, g, dr, tk, os⟩ := s
  refine PySem.W.set_plain I.kIn (ox := { cls := .ref C, dict := none, data := .fields #[.ref t1, .none, .none, .none, .bool false, .none] }) (od := none) ⟨ho, rfl, rfl, trivial⟩ T.sa ?_
  refine PySem.W.osa_openX (od := none) PySem.F.store_RuntimeError I.kIn ⟨ho, rfl, rfl, trivial⟩ hov (taker_none hno) fun b => ?_
  have hxs : a ≠ hp.objs.size := Nat.ne_of_lt (Heap.lt_size ho)
  refine wpAny_bind (wpAny_pure (wpAny_bind (PySem.W.instanceDict_exc ho (PySem.W.looks_clsIn I.kIn hcd) hhd ?_)))
  refine HandSPX.store_in_new ?_ fun h' tk' hn' hs => ?_
  · exact ⟨_, #[], _, (Heap.get?_update_ne _ _ _ _ (Ne.symm hxs)).trans (Heap.get?_push_at rfl rfl), rfl, fun e he => absurd he (by simp), fun _ => rfl⟩
  have hx1 : (hp.push { cls := .type "dict", data := .dict #[] }).get? a = some { cls := .ref C, dict := none, data := .fields #[.ref t1, .none, .none, .none, .bool false, .none] } := Heap.get?_push_of_some _ ho
  have k : ∀ b o, b ≠ a → hp.get? b = some o → h'.get? b = some o := fun b o hb hbo => (hs.2 b (Nat.ne_of_lt (Heap.lt_size hbo))).trans ((Heap.get?_update_ne _ _ _ _ hb).trans (Heap.get?_push_of_some _ hbo))
  have hx : h'.get? a = some { cls := .ref C, dict := some hp.objs.size, data := .fields #[.ref t1, .none, .none, .none, .bool false, .none] } := (hs.2 a hxs).trans (Heap.get?_update_self _ hx1 rfl)
  have hnd : H hp.objs.size = none := I.hok.fresh (Nat.le_refl _)
  have nd : ∀ {b : Addr} {o : Obj}, hp.get? b = some o → b ≠ hp.objs.size := fun {b o} z => Nat.ne_of_lt (Heap.lt_size z)
  have na : ∀ {b : Addr}, H b = none → b ≠ a := fun {b} n z => by rw [z, e] at n; cases n
  have U : Un X.fs [] H (upd (upd H hp.objs.size (exd hp.objs.size [(f, y)])) a (exo a C (some hp.objs.size))) hp h' := {
    keep := fun b o z n _ _ => k b o (na n) z
    slot := fun b o z n _ _ => ⟨o.slots, k b o (na n) z⟩
    free := fun b o z n _ => by rw [upd_ne (na n), upd_ne (nd z)]; exact n
    there := fun b o z _ => by
      by_cases hb : b = a
      · subst hb; exact ⟨_, hx⟩
      · exact ⟨o, k b o hb z⟩
    tups := fun b xs z => by rw [upd_ne (at_ne e z exo_tup), upd_ne (ne_of_none z hnd)]; exact z
    frzs := fun b o v z => by rw [upd_ne (at_ne e z exo_frz), upd_ne (ne_of_none z hnd)]; exact z
    tbls := fun b ps z => ⟨#[], by rw [upd_ne (at_ne e z exo_tbl), upd_ne (ne_of_none z hnd), z]; simp⟩ }
  refine h _ _ hnd (Ne.symm hxs) (I.un (t' := tk') U fun b o z => ?_)
  by_cases hb : b = a
  · subst hb
    rw [upd_same] at z
    cases z
    exact exo_ok hx
  rw [upd_ne hb] at z
  by_cases hd : b = hp.objs.size
  · subst hd
    rw [upd_same] at z
    cases z
    exact exd_ok hn' (relO_put (fs := []) ry fun g => True.intro)
  rw [upd_ne hd] at z
  refine (I.hok b o z).stay (fun c v hc w => k c v ?_ w) (fun c hc => ?_) fun c xs hc => ?_
  · rcases hc with hc | hc
    · rw [hc]; exact hb
    · exact at_ne e hc exo_own
  · rw [upd_ne (at_ne e hc exo_own), upd_ne (ne_of_none hc hnd)]; exact hc
  · rw [upd_ne (at_ne e hc exo_tup), upd_ne (ne_of_none hc hnd)]; exact hc
/-- the store of a further one -/
theorem ast_old (T : OexA X.K C) (I : Inv X pins σ H s) (e : H a = some (exo a C (some dx))) (ed : H dx = some (exd dx fs)) (hl : fs.length ≤ 900) (hno : PySem.W.findIn X.K (.ref C) f = some none) (ry : RelV y u)
    (h : ∀ s', Inv X pins σ (upd H dx (exd dx ((f, y) :: fs))) s' → Q () s') : wpAny (model X.prog X.w) A (setAttr (.ref a) f u) Q E s := by
  obtain ⟨cd, hcd, hhd, hov⟩ := T.recd
  obtain ⟨t1, ho⟩ := exo_at I.hok e
  obtain ⟨mA, hns, rel⟩ := exd_at I.hok ed
  have hw := within_of rel
  obtain ⟨hp, g, dr, tk, os⟩ := s
  obtain ⟨oD, _, _, hoD, _, _⟩ := hns.count hw
  refine PySem.W.set_plain I.kIn (ox := { cls := .ref C, dict := some dx, data := .fields #[.ref t1, .none, .none, .none, .bool false, .none] }) (od := some oD) ⟨ho, rfl, rfl, hoD⟩ T.sa ?_
  refine PySem.W.osa_openX (od := some oD) PySem.F.store_RuntimeError I.kIn ⟨ho, rfl, rfl, hoD⟩ hov (taker_none hno) fun b => ?_
  have fin : ∀ h' tk', h'.Ns1 dx (fun z => if z = f then some u else mA z) → Heap.SameBut dx hp h' → Q () ⟨h', g, dr, tk', os⟩ := fun h' tk' hn hs => by
    have hd : ∃ o, h'.get? dx = some o := by
      obtain ⟨o, _, _, e', _⟩ := hn
      exact ⟨o, e'⟩
    exact h _ (I.write (t' := tk') (x := dx) (e := dx) (o := exd dx ((f, y) :: fs)) (by rw [ed]; exact True.intro) (.inl rfl) (fun b o hb ho => (hs.2 b hb).trans ho) hd (exd_ok hn (relO_put ry rel)))
  show wpAny _ _ (Builtin.ObjectAttr.storeInOwnDict (.ref a) (.ref C) (.str f tk) f u b) _ _ _
  unfold Builtin.ObjectAttr.storeInOwnDict Builtin.ObjectAttr.ownDictForStores
  refine wpAny_bind (wpAny_pure (wpAny_bind ?_))
  unfold instanceDict
  refine wpAny_bind (wpAny_loadPart ho ?_)
  dsimp only
  refine wpAny_bind ((PySem.W.looks_clsIn (h := hp) I.kIn hcd).at ?_)
  rw [hhd]
  (try dsimp only [Bool.not_true])
  (try rw [if_neg (show ¬ (false = true) from by decide)])
  refine wpAny_pure ?_
  exact PySem.OEX.store_in_old hns hw (by rw [List.length_map]; omega) fun h' tk' hn hs => fin h' tk' hn hs
end
end FYR

set_option Elab.async false
set_option linter.all false
set_option maxRecDepth 100000
set_option maxHeartbeats 4000000
namespace FYR
open PySem PySem.Spec PyProof.Rows L2
/-- B.__init__(self, ..), B an own class without an __init__ of its own -/
def tAeI (K : PySem.W.Frag) (ta : L2.TA) : TE := fun σ H Q => ta σ H fun vs H1 => ∃ (a C : Addr) (ws : List V), vs = .ref a :: ws ∧ ws.length ≤ 1000 ∧ OexA K C ∧ H1 a = some (exo a C none) ∧ Q .non H1
def tOstA (K : PySem.W.Frag) (f : Str) (to te : TE) : TS := fun D σ H => te σ H fun y H1 => to σ H1 fun x H2 => ∃ a C : Addr, x = .ref a ∧ OexA K C ∧ PySem.W.findIn K (.ref C) f = some none ∧
  ((H2 a = some (exo a C none) ∧ ∀ dx, H2 dx = none → dx ≠ a → D.nx σ (upd (upd H2 dx (exd dx [(f, y)])) a (exo a C (some dx)))) ∨
    ∃ (dx : Addr) (fs : List (Str × V)), H2 a = some (exo a C (some dx)) ∧ H2 dx = some (exd dx fs) ∧ fs.length ≤ 900 ∧ D.nx σ (upd H2 dx (exd dx ((f, y) :: fs))))
section
variable {X : Cx} {o e : Expr} {es : List Expr} {to te : TE} {ta : L2.TA} {f x : Str} {p p' p1 p2 pos : Pos} {CL : Addr} {mc : Value}
theorem ainit_ok {pins : List (Addr × Obj)} {σ : L2.St} {H : Hp} {s : Shared} {a C : Addr} {A : Around} {E : Value → Shared → Prop} {us : List Value} {Q : Value → Shared → Prop} (T : OexA X.K C) (I : L2.Inv X pins σ H s) (e : H a = some (exo a C none)) (hl : us.length ≤ sizeLine) (h : ∀ s', L2.Inv X pins σ H s' → Q .none s') :
    wpAny (model X.prog X.w) A (call (.builtin "RuntimeError.__init__") (.ref a :: us)) Q E s := by
  obtain ⟨nm, q, N, bs, bm, sn, sub, ab, col, dd, k0, k1, k2, k3, k5, hC, hbm⟩ := T.cls
  obtain ⟨t1, ho⟩ := exo_at I.hok e
  obtain ⟨hp, g, dr, tk, os⟩ := s
  refine wpAny_call (HandSPX.init_base PySem.F.excBase_RuntimeError (fun Y => PySem.W.excTail_contains Y bm hbm) (I.kIn _ _ hC) ho hl fun h' t2 k hx => h _ ?_)
  have J := I.write (t' := tk) (x := a) (e := a) (o := exo a C none) (by rw [e]; exact True.intro) (.inl rfl) k ⟨_, hx⟩ (exo_ok hx)
  have same : upd H a (exo a C none) = H := by
    funext b
    by_cases hb : b = a
    · rw [hb, upd_same, e]
    · rw [upd_ne hb]
  rwa [same] at J
theorem pe_aeinit {pl : Sem Bool} (hg : Gl X x) (hm : X.mg x = some (.ref CL)) (r : ClX.CRead X.K CL mc) (vV : PySem.W.findCls X.K (.ref CL) mc "__init__" = some (.val (.builtin "RuntimeError.__init__"))) (ha : PA X (e :: es) ta)
    (hdb : (x == ("__debug__" : Str)) = false := by decide)
    (hc : eval (.Call (.Attribute (.Name x p1) "__init__" p2) (e :: es) [] pos) X.env = (do
      let ov ← eval (.Name x p1) X.env
      standAt p2.atName
      let (f, first) ← holding [ov] (getMethod ov "__init__" pl)
      callWith pos f first (backTo pos (starEach (e :: es) X.env)) (backToKw pos (keywordEach [] X.env))) := by rfl)
    (he : starEach (e :: es) X.env = (false, eval e X.env) :: starEach es X.env := by rfl) (hpl : (backTo pos (starEach es X.env)).any (·.1) = false := by rfl) :
    PE X (.Call (.Attribute (.Name x p1) "__init__" p2) (e :: es) [] pos) (tAeI X.K ta) := by
  refine ⟨fun pins s σ H Q I h => ?_⟩
  refine PySem.W.methodCall_KW (ld_glob I hg hm ?_ hdb) hc
  refine PySem.W.method_cls I.kIn r.ga (PySem.W.cls_value I.kIn r.rd vV (by decide +kernel) ?_)
  show wpAny _ _ (callWith pos (Value.builtin "RuntimeError.__init__") [] (backTo pos (starEach (e :: es) X.env)) []) _ _ _
  refine PyProof.Rows.callWith_method1 (thn (ha.run pos pins _ σ H _ (I.tok _) h) fun us s1 ⟨vs, H1, I1, r1, a, C, ws, ev, hl, T, ea, q⟩ => ?_) he hpl
  subst ev
  cases r1 with
  | @cons _ u0 _ ur ra rw' =>
    obtain rfl : u0 = Value.ref a := ra
    have hlen : ur.length ≤ sizeLine := by
      rw [← Paired.length rw']
      exact Nat.le_trans hl (by decide)
    exact ainit_ok T I1 ea hlen fun s' J => ⟨.non, H1, J, rfl, q⟩
theorem ps_ostA (ho : PE X o to) (he : PE X e te) (hs : swapsWith e (some (.Attribute o f p')) pos.line X.env = pure false := by rfl) : PS X (.Assign [.Attribute o f p'] e pos) (tOstA X.K f to te) := by
  refine ⟨fun pins s σ H D I h => ?_⟩
  refine plainObj_wpAny_Assign_Attribute (thn (he.run pins s σ H _ I h) fun v s1 ⟨y, H1, I1, r1, q1⟩ => thn (ho.run pins s1 σ H1 _ I1 q1) fun u s2 ⟨z, H2, I2, r2, a, C, ex, T, hno, q⟩ => ?_) hs
  subst ex
  obtain rfl : u = Value.ref a := r2
  rcases q with ⟨ea, q⟩ | ⟨dx, fs, ea, ed, hl, q⟩
  · exact ast_new T I2 ea hno r1 fun dx s' n ne J => ⟨σ, _, J, q dx n ne⟩
  · exact ast_old T I2 ea ed hl hno r1 fun s' J => ⟨σ, _, J, q⟩
/-- C(e, ..), C's own __init__ keeping sp -/
theorem pmk_aex {CX : CXT} {C fI : Addr} {k : Nat} {fd : FuncData} {ps : List Str} {sp : Sp} (T : OexA X.K C) (iC : PySem.W.findIn X.K (.ref C) "__init__" = some (some (.ref fI))) (tI : PySem.W.typeIn X.K (.ref fI) = some (.type "function"))
    (F1 : FnOk X.prog X.w X.K X.mg X.base CX k fI fd ps sp) (hr : Room (k + 1) X.A) (hb : L2.Binds X.K fd ps []) (hx : Passes CX X (fun _ _ _ => False)) (hg : Gl X x) (hm : X.mg x = some (.ref C)) (ha : PA X (e :: es) ta)
    (hdb : (x == ("__debug__" : Str)) = false := by decide) (he : starEach (e :: es) X.env = (false, eval e X.env) :: starEach es X.env := by rfl) (hpl : (backTo pos (starEach es X.env)).any (·.1) = false := by rfl) :
    PMk X (.Call (.Name x p) (e :: es) [] pos) (tMkO C sp [] ta) := by
  intro pins s σ H Q I h
  obtain ⟨nm, q, N, bs, bm, sn, sub, ab, col, dd, k0, k1, k2, k3, k5, hC, hbm⟩ := T.cls
  refine wpAny_Call_Name_kw (ld_glob I hg hm ?_ hdb)
  refine PySem.W.callWith_K (h₀ := X.base) I.ok.mod.kin T.kC (thn (ha.run pos pins s σ H _ I h) fun us s1 ⟨vs, H1, I1, r1, hz, q1⟩ => ⟨I1.kIn, ?_⟩) he hpl
  show wpAny _ _ (call (.ref C) us) _ _ _
  obtain ⟨hp, g, dr, tk, os⟩ := s1
  have hsz : hp.objs.size ≤ hp.objs.size + 1 := Nat.le_succ _
  have hn : H1 (hp.objs.size + 1) = none := I1.hok.fresh hsz
  have hq := q1 _ hn
  rw [List.append_nil] at hq
  have kk : ∀ b o, hp.get? b = some o → ((hp.push (PySem.W.kdv_tup us)).push (HandSPX.excO C hp.objs.size)).get? b = some o := fun b o e => Heap.get?_push_of_some _ (Heap.get?_push_of_some _ e)
  have hget : ((hp.push (PySem.W.kdv_tup us)).push (HandSPX.excO C hp.objs.size)).get? (hp.objs.size + 1) = some (HandSPX.excO C hp.objs.size) := by heap_get
  have I2 := I1.laid (t' := tk) (a := hp.objs.size + 1) (o := exo (hp.objs.size + 1) C none) kk hsz (exo_ok hget)
  have r2 : Vals (V.ref (hp.objs.size + 1) :: vs) (Value.ref (hp.objs.size + 1) :: us) := .cons rfl r1
  have hl : (Value.ref (hp.objs.size + 1) :: us).length = ps.length := (r2.length.symm).trans (F1.len _ _ _ _ hq)
  have hus : us.length ≤ sizeLine := by
    rw [← Paired.length r1]
    exact Nat.le_trans hz (by decide)
  refine wpAny_call (HandSPX.call_own PySem.F.excBase_RuntimeError (fun Y => PySem.W.excTail_contains Y bm hbm) (I1.kIn _ _ hC) (PySem.W.looks_findIn I1.kIn iC) (fun self => PySem.W.bind_fn I1.kIn self tI) hus ?_)
  have bnd := hb _ (Value.ref (hp.objs.size + 1) :: us) I2.kIn (by rw [List.append_nil]; exact hl)
  rw [List.append_nil] at bnd
  refine codeAny_mono (F1.run _ X.stack _ _ ⟨Value.ref (hp.objs.size + 1) :: us, []⟩ (Value.ref (hp.objs.size + 1) :: us) _ _ (fun _ _ _ => False) (hr.make C us []) (I2.env0.make C us []) bnd r2 hq) fun r s' hq' => ?_
  cases r with
  | error er => exact hx pins σ _ _ er s' I2 hq'
  | ok fl =>
    cases fl with
    | ret u =>
      obtain ⟨v, H2, os2, bare2, un2, hok2, rv, ev, d, fs, ea, ed, hd1, q2⟩ := hq'
      subst ev
      obtain ⟨h2, g2, d2, t2, os'⟩ := s'
      exact ⟨rv, mk_end (raises_own T.exC T.tyC) I1 hsz kk un2 hok2 os2 bare2 ea ed hd1 q2⟩
    | next => exact False.elim hq'
    | brk => exact False.elim hq'
    | cont => exact False.elim hq'
end
end FYR

set_option Elab.async false
set_option linter.all false
set_option maxRecDepth 100000
set_option maxHeartbeats 4000000
/-! list(zip(x, y)) of two texts -/
namespace FYR
open PySem PySem.Spec PyProof.Rows L2
section
variable {prog : Program} {w : World} {A : Around} {E : Value → Shared → Prop} {s : Shared} {z TI TO i1 i2 : Addr} {fp1 fp2 : List Addr} {n1 n2 i : Nat} {P1 P2 : Nat → Value → Prop} {St1 St2 : Nat → Heap → Prop} {T : Addr} {f : Bool} {oT : Obj}
theorem zipH_next_item {Q : Value → Shared → Prop} (S : ZipSep2 z TI TO i1 i2 fp1 fp2) (D1 : Draws prog w A i1 fp1 n1 P1 St1) (D2 : Draws prog w A i2 fp2 n2 P2 St2)
    (hz : IsZipHeld s.heap z TI TO T f) (hT : s.heap.get? T = some oT) (hTI : IsTupOf2 s.heap TI (.ref i1) (.ref i2)) (st1 : St1 i s.heap) (st2 : St2 i s.heap) (hlt1 : i < n1) (hlt2 : i < n2)
    (hQ : ∀ x1 x2 h' tk, P1 i x1 → P2 i x2 → IsZipHeld h' z TI TO T true → St1 (i + 1) h' → St2 (i + 1) h' → IsTupOf2 h' s.heap.objs.size x1 x2 → h'.objs.size = s.heap.objs.size + 1 →
      (∀ c o, c ≠ z → c ≠ i1 → c ≠ i2 → s.heap.get? c = some o → h'.get? c = some o) → Q (.ref s.heap.objs.size) { s with heap := h', toks := tk }) :
    wpAny (model prog w) A (Builtin.«zip.__next__» ⟨[.ref z], []⟩) (fun fin s' => ∃ v, fin = .done (.ret v) ∧ Q v s') E s := by
  obtain ⟨hp, g, d, tk0, os⟩ := s
  show wpAny _ _ (field (.ref z) 2 >>= _) _ _ _
  refine wpAny_bind (wpAny_field hz rfl (x := .bool false) rfl ?_)
  show wpAny _ _ (field (.ref z) 3 >>= _) _ _ _
  refine wpAny_bind (wpAny_field hz rfl (x := .ref TI) rfl ?_)
  refine wpAny_bind (wpAny_seqItems hTI rfl ?_)
  show wpAny _ _ (Builtin.SmallTypes.ownedTupleIsFree (.ref z) >>= _) _ _ _
  refine wpAny_bind (wpAny_tupleHeld_zip hz hT fun h₁ hz₁ hs₁ => ?_)
  simp only [Bool.false_eq_true, if_false]
  refine wpAny_bind ?_
  rw [← Array.forIn_toList]
  simp only [List.forIn_cons, List.forIn_nil]
  refine wpAny_bind (wpAny_bind (wpAny_holding ?_))
  show wpAny _ _ (Builtin.SmallTypes.nextOf (.ref i1) >>= _) _ _ ⟨h₁, g, d, tk0, os⟩
  refine wpAny_bind (D1.item i _ _ _ hlt1 (D1.over st1 hs₁ S.zf1) fun x1 h₂ tk1 hx1 sn1 hs₂ => wpAny_pure ?_)
  replace hs₂ : Heap.SameBut i1 h₁ h₂ := hs₂
  refine wpAny_pure ?_
  refine wpAny_bind (wpAny_bind (wpAny_holding ?_))
  show wpAny _ _ (Builtin.SmallTypes.nextOf (.ref i2) >>= _) _ _ ⟨h₂, g, d, tk1, os⟩
  refine wpAny_bind (D2.item i _ _ _ hlt2 (D2.over (D2.over st2 hs₁ S.zf2) hs₂ S.sep1_2) fun x2 h₃ tk2 hx2 sn2 hs₃ => wpAny_pure ?_)
  replace hs₃ : Heap.SameBut i2 h₂ h₃ := hs₃
  refine wpAny_pure (wpAny_pure ?_)
  show wpAny _ _ (newTuple [x1, x2] >>= _) _ _ ⟨h₃, g, d, tk2, os⟩
  refine wpAny_bind (wpAny_newTuple ?_)
  have hsz : h₃.objs.size = hp.objs.size := by rw [hs₃.1, hs₂.1, hs₁.1]
  have hz₃ : IsZipHeld h₃ z TI TO T true := hs₃.extBut _ _ S.zi2 (hs₂.extBut _ _ S.zi1 hz₁)
  have hk : ∀ c o, c ≠ z → c ≠ i1 → c ≠ i2 → hp.get? c = some o → h₃.get? c = some o := fun c o c1 c2 c3 e => hs₃.extBut _ _ c3 (hs₂.extBut _ _ c2 (hs₁.extBut _ _ c1 e))
  have hj1 : St1 (i + 1) h₃ := D1.over sn1 hs₃ S.sep2_1
  refine wpAny_pure ⟨_, rfl, ?_⟩
  show Q (.ref h₃.objs.size) ⟨h₃.push { cls := .type "tuple", data := .seq #[x1, x2] }, g, d, tk2, os⟩
  have hp' : IsTupOf2 (h₃.push { cls := .type "tuple", data := .seq #[x1, x2] }) h₃.objs.size x1 x2 := Heap.get?_push_size _ rfl
  have hz4 : (h₃.push { cls := .type "tuple", data := .seq #[x1, x2] }).objs.size = h₃.objs.size + 1 := Heap.size_push ..
  rw [hsz] at hp' hz4 ⊢
  exact hQ x1 x2 _ tk2 hx1 hx2 (Heap.get?_push_of_some _ hz₃) (D1.frame _ _ _ hj1 fun b _ o e => Heap.get?_push_of_some _ e) (D2.frame _ _ _ sn2 fun b _ o e => Heap.get?_push_of_some _ e) hp' hz4 fun c o c1 c2 c3 e => Heap.get?_push_of_some _ (hk c o c1 c2 c3 e)
theorem zipH_next_end {Q : Fin → Shared → Prop} (S : ZipSep2 z TI TO i1 i2 fp1 fp2) (D1 : Draws prog w A i1 fp1 n1 P1 St1) (D2 : Draws prog w A i2 fp2 n2 P2 St2)
    (hz : IsZipHeld s.heap z TI TO T f) (hT : s.heap.get? T = some oT) (hTI : IsTupOf2 s.heap TI (.ref i1) (.ref i2)) (st1 : St1 i s.heap) (st2 : St2 i s.heap) (hle1 : i ≤ n1) (hle2 : i ≤ n2) (hend : i = n1 ∨ i = n2)
    (hE : ∀ h' tk e, (∀ c o, c ≠ z → c ≠ i1 → c ≠ i2 → s.heap.get? c = some o → h'.get? c = some o) → (∃ o, h'.get? e = some o ∧ o.cls = .type "StopIteration") → E (.ref e) { s with heap := h', toks := tk }) :
    wpAny (model prog w) A (Builtin.«zip.__next__» ⟨[.ref z], []⟩) Q E s := by
  obtain ⟨hp, g, d, tk0, os⟩ := s
  show wpAny _ _ (field (.ref z) 2 >>= _) _ _ _
  refine wpAny_bind (wpAny_field hz rfl (x := .bool false) rfl ?_)
  show wpAny _ _ (field (.ref z) 3 >>= _) _ _ _
  refine wpAny_bind (wpAny_field hz rfl (x := .ref TI) rfl ?_)
  refine wpAny_bind (wpAny_seqItems hTI rfl ?_)
  show wpAny _ _ (Builtin.SmallTypes.ownedTupleIsFree (.ref z) >>= _) _ _ _
  refine wpAny_bind (wpAny_tupleHeld_zip hz hT fun h₁ hz₁ hs₁ => ?_)
  simp only [Bool.false_eq_true, if_false]
  refine wpAny_bind ?_
  rw [← Array.forIn_toList]
  simp only [List.forIn_cons, List.forIn_nil]
  refine wpAny_bind (wpAny_bind (wpAny_holding ?_))
  show wpAny _ _ (Builtin.SmallTypes.nextOf (.ref i1) >>= _) _ _ ⟨h₁, g, d, tk0, os⟩
  by_cases hi : i = n1
  · subst hi
    refine wpAny_bind (D1.done _ _ _ (D1.over st1 hs₁ S.zf1) fun h₂ e hs₂ he => ?_)
    exact hE h₂ tk0 e (fun c o c1 c2 _ x => hs₂ _ _ c2 (hs₁.extBut _ _ c1 x)) he
  · have h2 : i = n2 := hend.resolve_left hi
    subst h2
    refine wpAny_bind (D1.item i _ _ _ (by omega) (D1.over st1 hs₁ S.zf1) fun x1 h₂ tk1 hx1 sn1 hs₂ => wpAny_pure ?_)
    replace hs₂ : Heap.SameBut i1 h₁ h₂ := hs₂
    refine wpAny_pure ?_
    refine wpAny_bind (wpAny_bind (wpAny_holding ?_))
    show wpAny _ _ (Builtin.SmallTypes.nextOf (.ref i2) >>= _) _ _ ⟨h₂, g, d, tk1, os⟩
    refine wpAny_bind (D2.done _ _ _ (D2.over (D2.over st2 hs₁ S.zf2) hs₂ S.sep1_2) fun h₃ e hs₃ he => ?_)
    exact hE h₃ tk1 e (fun c o c1 c2 c3 x => hs₃ _ _ c3 (hs₂.extBut _ _ c2 (hs₁.extBut _ _ c1 x))) he
theorem pyNext_zipH_item {Q : Option Value → Shared → Prop} (S : ZipSep2 z TI TO i1 i2 fp1 fp2) (D1 : Draws prog w A.in1 i1 fp1 n1 P1 St1) (D2 : Draws prog w A.in1 i2 fp2 n2 P2 St2)
    (hz : IsZipHeld s.heap z TI TO T f) (hT : s.heap.get? T = some oT) (hTI : IsTupOf2 s.heap TI (.ref i1) (.ref i2)) (st1 : St1 i s.heap) (st2 : St2 i s.heap) (hlt1 : i < n1) (hlt2 : i < n2)
    (hQ : ∀ x1 x2 h' tk, P1 i x1 → P2 i x2 → IsZipHeld h' z TI TO T true → St1 (i + 1) h' → St2 (i + 1) h' → IsTupOf2 h' s.heap.objs.size x1 x2 → h'.objs.size = s.heap.objs.size + 1 →
      (∀ c o, c ≠ z → c ≠ i1 → c ≠ i2 → s.heap.get? c = some o → h'.get? c = some o) → Q (some (.ref s.heap.objs.size)) { s with heap := h', toks := tk }) :
    wpAny (model prog w) A (pyNext (.ref z)) Q E s := by
  have hTy : s.TypeIs (.ref z) "zip" := ⟨_, hz, rfl⟩
  unfold pyNext
  exact wpAny_bind (wpAny_attempt (wpAny_callSpecial?_slot (name := Str.ofString "__next__") hTy F.slot_zip_next
    (wpAny_call_entry F.slot_zip_next hTy F.entry_zip_next
      (zipH_next_item S D1 D2 hz hT hTI st1 st2 hlt1 hlt2 fun x1 x2 h' tk y1 y2 b1 d1 d2 b5 b6 b7 => wpAny_pure (hQ x1 x2 h' tk y1 y2 b1 d1 d2 b5 b6 b7)) (F.args_zip_next_1 _))))
theorem pyNext_zipH_end {Q : Option Value → Shared → Prop} (S : ZipSep2 z TI TO i1 i2 fp1 fp2) (D1 : Draws prog w A.in1 i1 fp1 n1 P1 St1) (D2 : Draws prog w A.in1 i2 fp2 n2 P2 St2)
    (hz : IsZipHeld s.heap z TI TO T f) (hT : s.heap.get? T = some oT) (hTI : IsTupOf2 s.heap TI (.ref i1) (.ref i2)) (st1 : St1 i s.heap) (st2 : St2 i s.heap) (hle1 : i ≤ n1) (hle2 : i ≤ n2) (hend : i = n1 ∨ i = n2)
    (hQ : ∀ h' tk, (∀ c o, c ≠ z → c ≠ i1 → c ≠ i2 → s.heap.get? c = some o → h'.get? c = some o) → Q none { s with heap := h', toks := tk }) : wpAny (model prog w) A (pyNext (.ref z)) Q E s := by
  have hTy : s.TypeIs (.ref z) "zip" := ⟨_, hz, rfl⟩
  unfold pyNext
  refine wpAny_bind (wpAny_attempt (wpAny_callSpecial?_slot (name := Str.ofString "__next__") hTy F.slot_zip_next
    (wpAny_call_entry F.slot_zip_next hTy F.entry_zip_next (zipH_next_end S D1 D2 hz hT hTI st1 st2 hle1 hle2 hend fun h' tk e hk he => ?_) (F.args_zip_next_1 _))))
  obtain ⟨o, ho, hc⟩ := he
  refine wpAny_bind (wpAny_isInstance (T := "StopIteration") (b := true) ⟨o, ho, hc⟩ isSubtype_stop ?_)
  exact wpAny_pure (hQ _ _ hk)
/-- the zip ahead of turn i, a tuple out or none -/
def ZSt (z TI TO i1 i2 S : Addr) (St1 St2 : Nat → Heap → Prop) (i : Nat) (h : Heap) : Prop :=
  IsTupOf2 h TI (.ref i1) (.ref i2) ∧ St1 i h ∧ St2 i h ∧ ((IsZip h z TI TO .none ∧ ∃ a1 a2, IsTupOf2 h TO a1 a2) ∨ ∃ T f oT, IsZipHeld h z TI TO T f ∧ h.get? T = some oT ∧ S < T)
theorem zst_item {Sl : Addr} {Q : Option Value → Shared → Prop} (S : ZipSep2 z TI TO i1 i2 fp1 fp2) (D1 : Draws prog w A.in1 i1 fp1 n1 P1 St1) (D2 : Draws prog w A.in1 i2 fp2 n2 P2 St2) (low : z < Sl ∧ TI < Sl ∧ TO < Sl ∧ i1 < Sl ∧ i2 < Sl) (hSl : Sl < s.heap.objs.size)
    (st : ZSt z TI TO i1 i2 Sl St1 St2 i s.heap) (hlt1 : i < n1) (hlt2 : i < n2)
    (hQ : ∀ x1 x2 h' tk, P1 i x1 → P2 i x2 → ZSt z TI TO i1 i2 Sl St1 St2 (i + 1) h' → IsTupOf2 h' s.heap.objs.size x1 x2 → h'.objs.size = s.heap.objs.size + 1 →
      (∀ c o, c ≠ z → c ≠ TO → c ≠ i1 → c ≠ i2 → s.heap.get? c = some o → h'.get? c = some o) → Q (some (.ref s.heap.objs.size)) { s with heap := h', toks := tk }) :
    wpAny (model prog w) A (pyNext (.ref z)) Q E s := by
  obtain ⟨hTI, st1, st2, ⟨hz, a1, a2, hTO⟩ | ⟨T, f, oT, hz, hT, hST⟩⟩ := st
  · refine wpAny_pyNext_zipD2_item S D1 D2 hz hTI hTO st1 st2 hlt1 hlt2 fun x1 x2 h' tk y1 y2 b1 b2 d1 d2 b5 b6 hk => ?_
    exact hQ x1 x2 h' tk y1 y2 ⟨hk _ _ S.TIz S.TITO S.TIi1 S.TIi2 hTI, d1, d2, .inr ⟨_, false, _, b1, b5, hSl⟩⟩ b5 b6 hk
  · refine pyNext_zipH_item S D1 D2 hz hT hTI st1 st2 hlt1 hlt2 fun x1 x2 h' tk y1 y2 b1 d1 d2 b5 b6 hk => ?_
    have nz : T ≠ z := fun e => absurd (Nat.lt_trans hST (e ▸ low.1)) (Nat.lt_irrefl _)
    have n1' : T ≠ i1 := fun e => absurd (Nat.lt_trans hST (e ▸ low.2.2.2.1)) (Nat.lt_irrefl _)
    have n2' : T ≠ i2 := fun e => absurd (Nat.lt_trans hST (e ▸ low.2.2.2.2)) (Nat.lt_irrefl _)
    exact hQ x1 x2 h' tk y1 y2 ⟨hk _ _ S.TIz S.TIi1 S.TIi2 hTI, d1, d2, .inr ⟨T, true, oT, b1, hk _ _ nz n1' n2' hT, hST⟩⟩ b5 b6 fun c o c1 _ c2 c3 e => hk c o c1 c2 c3 e
theorem zst_end {Sl : Addr} {Q : Option Value → Shared → Prop} (S : ZipSep2 z TI TO i1 i2 fp1 fp2) (D1 : Draws prog w A.in1 i1 fp1 n1 P1 St1) (D2 : Draws prog w A.in1 i2 fp2 n2 P2 St2)
    (st : ZSt z TI TO i1 i2 Sl St1 St2 i s.heap) (hle1 : i ≤ n1) (hle2 : i ≤ n2) (hend : i = n1 ∨ i = n2)
    (hQ : ∀ h' tk, (∀ c o, c ≠ z → c ≠ TO → c ≠ i1 → c ≠ i2 → s.heap.get? c = some o → h'.get? c = some o) → Q none { s with heap := h', toks := tk }) : wpAny (model prog w) A (pyNext (.ref z)) Q E s := by
  obtain ⟨hTI, st1, st2, ⟨hz, a1, a2, hTO⟩ | ⟨T, f, oT, hz, hT, hST⟩⟩ := st
  · exact wpAny_pyNext_zipD2_end S D1 D2 hz hTI hTO st1 st2 hle1 hle2 hend hQ
  · exact pyNext_zipH_end S D1 D2 hz hT hTI st1 st2 hle1 hle2 hend fun h' tk hk => hQ h' tk fun c o c1 _ c2 c3 e => hk c o c1 c2 c3 e
end
structure ZipG (P1 P2 : Nat → Value → Prop) (lo : Addr) (h : Heap) (as : List Addr) : Prop where
  rise : as.Pairwise (· < ·)
  above : ∀ a ∈ as, lo < a
  pairs : ∀ (j : Nat) (a : Addr), as[j]? = some a → ∃ x1 x2, P1 j x1 ∧ P2 j x2 ∧ IsTupOf2 h a x1 x2
section
variable {prog : Program} {w : World} {A : Around} {s : Shared} {R : Result → Shared → Prop} {z TI TO i1 i2 : Addr} {fp1 fp2 : List Addr} {n1 n2 : Nat} {P1 P2 : Nat → Value → Prop} {St1 St2 : Nat → Heap → Prop}
theorem ZipG.there {lo : Addr} {h : Heap} {as : List Addr} (g : ZipG P1 P2 lo h as) {a : Addr} (ha : a ∈ as) : a < h.objs.size := by
  obtain ⟨j, hj⟩ := List.mem_iff_getElem?.mp ha
  obtain ⟨_, _, _, _, e⟩ := g.pairs j a hj
  exact Heap.lt_size e
theorem zip_loop {S : Addr} (Sp : ZipSep2 z TI TO i1 i2 fp1 fp2) (D1 : Draws prog w A.in1.in1 i1 fp1 n1 P1 St1) (D2 : Draws prog w A.in1.in1 i2 fp2 n2 P2 St2) (low : z < S ∧ TI < S ∧ TO < S ∧ i1 < S ∧ i2 < S) (lf1 : ∀ b ∈ fp1, b < S) (lf2 : ∀ b ∈ fp2, b < S) (hn : min n1 n2 ≤ sizeLine) (res : Value) {h₁ : Heap}
    (hR : ∀ h' tk acc c as, (∀ b o, b ≠ S → b ≠ z → b ≠ TO → b ≠ i1 → b ≠ i2 → h₁.get? b = some o → h'.get? b = some o) → h'.get? S = some { cls := .type "list", dict := none, data := .seq acc c, slots := #[] } → as.length = min n1 n2 → ZipG P1 P2 S h' as →
      acc.toList = as.map Value.ref → R (.ok (.ret res)) { s with heap := h', toks := tk }) :
    ∀ (k i : Nat) (h : Heap) (tk c : Nat) (acc : Array Value) (as : List Addr), min n1 n2 - i = k → i ≤ min n1 n2 → ZSt z TI TO i1 i2 S St1 St2 i h → (∀ b o, b ≠ S → b ≠ z → b ≠ TO → b ≠ i1 → b ≠ i2 → h₁.get? b = some o → h.get? b = some o) →
      h.get? S = some { cls := .type "list", dict := none, data := .seq acc c, slots := #[] } → acc.toList = as.map Value.ref → as.length = i → ZipG P1 P2 S h as →
      codeAny (model prog w) A (.builtin "list.extend.loop" ⟨[.ref S, .ref z, res], []⟩) R { s with heap := h, toks := tk } := by
  have nS : ∀ b, b ≠ z → b ≠ TO → b ≠ i1 → b ≠ i2 → True := fun _ _ _ _ _ => trivial
  have Sz : S ≠ z := Nat.ne_of_gt low.1
  have STO : S ≠ TO := Nat.ne_of_gt low.2.2.1
  have S1 : S ≠ i1 := Nat.ne_of_gt low.2.2.2.1
  have S2 : S ≠ i2 := Nat.ne_of_gt low.2.2.2.2
  intro k
  induction k with
  | zero =>
    intro i h tk c acc as hk hi hst hkeep hS hacc hal hG
    have hin : i = min n1 n2 := by omega
    refine codeAny_builtin PySem.F.entry_extend_loop ?_
    rw [Around.under_plainId PySem.F.plain_extend_loop _]
    show wpAny _ A.in1 (pyNext (.ref z) >>= _) _ _ _
    refine wpAny_bind (zst_end (s := { s with heap := h, toks := tk }) (A := A.in1) Sp D1 D2 hst (by omega) (by omega) (by omega) fun h' tk' he => ?_)
    refine wpAny_pure (hR h' tk' acc c as (fun b o h0 h1 h2 h3 h4 e => he b o h1 h2 h3 h4 (hkeep b o h0 h1 h2 h3 h4 e)) (he S _ Sz STO S1 S2 hS) (by omega) ⟨hG.rise, hG.above, fun j a hj => ?_⟩ hacc)
    obtain ⟨x1, x2, p1, p2, e3⟩ := hG.pairs j a hj
    have ha := hG.above a (List.mem_of_getElem? hj)
    exact ⟨x1, x2, p1, p2, he a _ (Nat.ne_of_gt (Nat.lt_trans low.1 ha)) (Nat.ne_of_gt (Nat.lt_trans low.2.2.1 ha)) (Nat.ne_of_gt (Nat.lt_trans low.2.2.2.1 ha)) (Nat.ne_of_gt (Nat.lt_trans low.2.2.2.2 ha)) e3⟩
  | succ k ih =>
    intro i h tk c acc as hk hi hst hkeep hS hacc hal hG
    have hsz : acc.size = i := by rw [← Array.length_toList, hacc, List.length_map, hal]
    refine codeAny_builtin PySem.F.entry_extend_loop ?_
    rw [Around.under_plainId PySem.F.plain_extend_loop _]
    show wpAny _ A.in1 (pyNext (.ref z) >>= _) _ _ _
    refine wpAny_bind (zst_item (s := { s with heap := h, toks := tk }) (A := A.in1) Sp D1 D2 low (Heap.lt_size hS) hst (by omega) (by omega) fun x1 x2 h' tk' y1 y2 hst' ht hz hkp => ?_)
    dsimp only at ht hz hkp ⊢
    have hS' := hkp S _ Sz STO S1 S2 hS
    have up : ∀ b o, b ≠ S → h'.get? b = some o → (h'.update S (Obj.mapSeq (·.push (Value.ref h.objs.size)))).get? b = some o := fun b o hb e => (Heap.get?_update_other _ _ (Ne.symm hb)).trans e
    have hSl : S < h.objs.size := Heap.lt_size hS
    have zst2 : ZSt z TI TO i1 i2 S St1 St2 (i + 1) (h'.update S (Obj.mapSeq (·.push (Value.ref h.objs.size)))) := by
      obtain ⟨a1, a2, a3, a4⟩ := hst'
      refine ⟨up _ _ (Nat.ne_of_lt low.2.1) a1, D1.frame _ _ _ a2 fun b hb o e => up b o (Nat.ne_of_lt (lf1 b hb)) e, D2.frame _ _ _ a3 fun b hb o e => up b o (Nat.ne_of_lt (lf2 b hb)) e, ?_⟩
      rcases a4 with ⟨q1, q2, q3, q4⟩ | ⟨T, f, oT, q1, q2, q3⟩
      · exact .inl ⟨up _ _ (Ne.symm Sz) q1, q2, q3, up _ _ (Ne.symm STO) q4⟩
      · exact .inr ⟨T, f, oT, up _ _ (Ne.symm Sz) q1, up _ _ (Nat.ne_of_gt q3) q2, q3⟩
    show wpAny _ A.in1 (updateSeq S (·.push (Value.ref h.objs.size)) >>= _) _ _ _
    refine wpAny_bind ?_
    refine wpAny_updateSeq hS' rfl (wpAny_pure ⟨plainId_quiet PySem.F.plain_extend_loop _, ih (i + 1) _ tk' _ (acc.push (Value.ref h.objs.size)) (as ++ [h.objs.size]) (by omega) (by omega) zst2
      (fun b o h0 h1 h2 h3 h4 e => up b o h0 (hkp b o h1 h2 h3 h4 (hkeep b o h0 h1 h2 h3 h4 e))) (Heap.get?_update_self _ hS' rfl) (by rw [Array.toList_push, hacc, List.map_append]; rfl) (by rw [List.length_append, hal]; rfl) ⟨?_, ?_, ?_⟩⟩) (by rw [hsz]; omega) (by show (acc.push (Value.ref h.objs.size)).size ≤ sizeLine + 1; rw [Array.size_push, hsz]; omega)
    · refine List.pairwise_append.mpr ⟨hG.rise, List.pairwise_singleton _ _, fun a ha b hb => ?_⟩
      rw [List.mem_singleton.mp hb]
      exact hG.there ha
    · intro a ha
      rcases List.mem_append.mp ha with ha | ha
      · exact hG.above a ha
      · rw [List.mem_singleton.mp ha]; exact hSl
    · intro j b hj
      rcases Nat.lt_trichotomy j as.length with h1 | h1 | h1
      · rw [List.getElem?_append_left h1] at hj
        obtain ⟨w1, w2, p1, p2, e3⟩ := hG.pairs j b hj
        have ha := hG.above b (List.mem_of_getElem? hj)
        exact ⟨w1, w2, p1, p2, up b _ (Nat.ne_of_gt ha) (hkp b _ (Nat.ne_of_gt (Nat.lt_trans low.1 ha)) (Nat.ne_of_gt (Nat.lt_trans low.2.2.1 ha)) (Nat.ne_of_gt (Nat.lt_trans low.2.2.2.1 ha)) (Nat.ne_of_gt (Nat.lt_trans low.2.2.2.2 ha)) e3)⟩
      · subst h1
        have hb : h.objs.size = b := by simpa using hj
        subst hb
        exact ⟨x1, x2, by rw [hal]; exact y1, by rw [hal]; exact y2, up _ _ (Nat.ne_of_gt hSl) ht⟩
      · have hnone : (as ++ [h.objs.size])[j]? = none := List.getElem?_eq_none (by rw [List.length_append, List.length_singleton]; omega)
        rw [hnone] at hj; cases hj
end
end FYR

set_option Elab.async false
set_option linter.all false
set_option maxRecDepth 100000
set_option maxHeartbeats 4000000
/-! list(zip(x, y)) of two texts; x[i:j:k] -/
namespace FYR
open PySem PySem.Spec PyProof.Rows L2
theorem nolen_zip : typeLookup (.type "zip") "__len__" = pure none := by rw [typeLookup_type, builtinLookup_eq_fast]; kernel_rfl
theorem nohint_zip : typeLookup (.type "zip") "__length_hint__" = pure none := by rw [typeLookup_type, builtinLookup_eq_fast]; kernel_rfl
section
variable {prog : Program} {w : World} {A : Around} {E : Value → Shared → Prop} {s : Shared} {z TI TO i1 i2 : Addr} {fp1 fp2 : List Addr} {n1 n2 : Nat} {P1 P2 : Nat → Value → Prop} {St1 St2 : Nat → Heap → Prop}
/-- a fresh zip -/
def ZNew (z TI TO i1 i2 : Addr) (St1 St2 : Nat → Heap → Prop) (h : Heap) : Prop :=
  IsTupOf2 h TI (.ref i1) (.ref i2) ∧ St1 0 h ∧ St2 0 h ∧ IsZip h z TI TO .none ∧ ∃ a1 a2, IsTupOf2 h TO a1 a2
theorem zl_extend {R : Result → Shared → Prop} (Sp : ZipSep2 z TI TO i1 i2 fp1 fp2) (D1 : Draws prog w A.in1.in1 i1 fp1 n1 P1 St1) (D2 : Draws prog w A.in1.in1 i2 fp2 n2 P2 St2) (hv : ZNew z TI TO i1 i2 St1 St2 s.heap) (S : Addr)
    (low : z < S ∧ TI < S ∧ TO < S ∧ i1 < S ∧ i2 < S) (lf1 : ∀ b ∈ fp1, b < S) (lf2 : ∀ b ∈ fp2, b < S) (res : Value) (c₀ : Nat) (hS : s.heap.get? S = some { cls := .type "list", data := .seq #[] c₀ })
    (hR : ∀ h' tk acc c as, (∀ b o, b ≠ S → b ≠ z → b ≠ TO → b ≠ i1 → b ≠ i2 → s.heap.get? b = some o → h'.get? b = some o) → h'.get? S = some { cls := .type "list", dict := none, data := .seq acc c, slots := #[] } → as.length = min n1 n2 → ZipG P1 P2 S h' as →
      acc.toList = as.map Value.ref → R (.ok (.ret res)) { s with heap := h', toks := tk }) (hn : min n1 n2 ≤ sizeLine) :
    wpAny (model prog w) A.in1 (Builtin.List.listExtendWith (.ref S) (.ref z) res)
      (fun fin s' => match fin with | .done f => R (.ok f) s' | .again c' => c'.quiet = true ∧ codeAny (model prog w) A c' R s') (fun e s' => R (.error e) s') s := by
  have hTy : s.TypeIs (.ref z) "zip" := ⟨_, hv.2.2.2.1, rfl⟩
  have key : ∀ (h : Heap) (c₁ tk : Nat), (∀ b o, b ≠ S → s.heap.get? b = some o → h.get? b = some o) →
      h.get? S = some { cls := .type "list", data := .seq #[] c₁ } → codeAny (model prog w) A (.builtin "list.extend.loop" ⟨[.ref S, .ref z, res], []⟩) R { s with heap := h, toks := tk } := by
    intro h c₁ tk hk hS₁
    obtain ⟨q1, q2, q3, q4, a1, a2, q5⟩ := hv
    refine zip_loop (s := s) (h₁ := s.heap) Sp D1 D2 low lf1 lf2 hn res hR (min n1 n2) 0 h tk c₁ #[] [] (Nat.sub_zero _) (Nat.zero_le _)
      ⟨hk _ _ (Nat.ne_of_lt low.2.1) q1, D1.frame _ _ _ q2 fun b hb o e => hk b o (Nat.ne_of_lt (lf1 b hb)) e, D2.frame _ _ _ q3 fun b hb o e => hk b o (Nat.ne_of_lt (lf2 b hb)) e, .inl ⟨hk _ _ (Nat.ne_of_lt low.1) q4, a1, a2, hk _ _ (Nat.ne_of_lt low.2.2.1) q5⟩⟩
      (fun b o h0 _ _ _ _ e => hk b o h0 e) hS₁ rfl rfl ⟨List.Pairwise.nil, (fun _ ha => nomatch ha), (fun j a hj => by simp at hj)⟩
  unfold Builtin.List.listExtendWith
  refine wpAny_bind (wpAny_typeOf (T := "zip") hTy ?_)
  have h1 : Builtin.List.listSameRef (.ref S) (.ref z) = false := by simp [Builtin.List.listSameRef, Nat.ne_of_gt low.1]
  have h2 : (Value.type "zip" == Value.type "list") = false := by decide
  have h3 : (Value.type "zip" == Value.type "tuple") = false := by decide
  simp only [h1, h2, h3, Bool.or_false, Bool.false_eq_true, if_false]
  refine wpAny_bind (wpAny_pyIter_zip hv.2.2.2.1 ?_)
  refine wpAny_bind (wpAny_holding ?_)
  unfold Builtin.List.listLengthHint
  refine wpAny_bind (wpAny_specialOf hTy nolen_zip ?_)
  show wpAny _ A.in1 (specialOf (Value.ref z) (Str.ofString "__length_hint__") >>= _) _ _ _
  refine wpAny_bind (wpAny_specialOf hTy nohint_zip ?_)
  refine wpAny_pure ?_
  refine wpAny_ite_split (fun _ => ?_) (fun _ => wpAny_pure ⟨plainId_quiet PySem.F.plain_extend_loop _, key _ c₀ _ (fun b o _ e => e) hS⟩)
  refine wpAny_bind (wpAny_rule ?_)
  refine wpAny_bind ?_
  show wpAny _ _ (updateSeq S (·.push .none) >>= fun _ => updateSeq S (·.pop)) _ _ _
  refine wpAny_bind (wpAny_updateSeq hS rfl ?_)
  have hS₂ := Heap.get?_update_self (Obj.mapSeq (·.push Value.none)) hS rfl
  refine wpAny_updateSeq (hz := by seq_fits) hS₂ rfl ?_
  have hS₃ := Heap.get?_update_self (Obj.mapSeq (·.pop)) hS₂ rfl
  refine wpAny_pure ⟨plainId_quiet PySem.F.plain_extend_loop _, key _ _ _ (fun b o hb e => ?_) hS₃⟩
  exact (Heap.get?_update_other _ _ (Ne.symm hb)).trans ((Heap.get?_update_other _ _ (Ne.symm hb)).trans e)
theorem ZNew.keep {h h' : Heap} (D1 : Draws prog w A i1 fp1 n1 P1 St1) (D2 : Draws prog w A i2 fp2 n2 P2 St2) (hv : ZNew z TI TO i1 i2 St1 St2 h) (k : ∀ b o, (b = z ∨ b = TI ∨ b = TO ∨ b ∈ fp1 ∨ b ∈ fp2) → h.get? b = some o → h'.get? b = some o) : ZNew z TI TO i1 i2 St1 St2 h' := by
  obtain ⟨q1, q2, q3, q4, a1, a2, q5⟩ := hv
  exact ⟨k _ _ (by simp) q1, D1.frame _ _ _ q2 fun b hb o e => k b o (by simp [hb]) e, D2.frame _ _ _ q3 fun b hb o e => k b o (by simp [hb]) e, k _ _ (by simp) q4, a1, a2, k _ _ (by simp) q5⟩
theorem zl_init {R : Result → Shared → Prop} (Sp : ZipSep2 z TI TO i1 i2 fp1 fp2) (D1 : Draws prog w A.in1.in1 i1 fp1 n1 P1 St1) (D2 : Draws prog w A.in1.in1 i2 fp2 n2 P2 St2) (hv : ZNew z TI TO i1 i2 St1 St2 s.heap) (S : Addr)
    (low : z < S ∧ TI < S ∧ TO < S ∧ i1 < S ∧ i2 < S) (lf1 : ∀ b ∈ fp1, b < S) (lf2 : ∀ b ∈ fp2, b < S) (hS : s.heap.get? S = some { cls := .type "list", data := .seq #[] })
    (hR : ∀ h' tk acc c as, (∀ b o, b ≠ S → b ≠ z → b ≠ TO → b ≠ i1 → b ≠ i2 → s.heap.get? b = some o → h'.get? b = some o) → h'.get? S = some { cls := .type "list", dict := none, data := .seq acc c, slots := #[] } → as.length = min n1 n2 → ZipG P1 P2 S h' as →
      acc.toList = as.map Value.ref → R (.ok (.ret .none)) { s with heap := h', toks := tk }) (hn : min n1 n2 ≤ sizeLine) :
    wpAny (model prog w) A.in1 (Builtin.«list.__init__» ⟨[.ref S, .ref z], []⟩)
      (fun fin s' => match fin with | .done f => R (.ok f) s' | .again c' => c'.quiet = true ∧ codeAny (model prog w) A c' R s') (fun e s' => R (.error e) s') s := by
  show wpAny _ _ (do let old ← Builtin.List.listItems (.ref S); Builtin.List.listUpdate (.ref S) (fun _ => #[]); letGo old.toList.reverse; Builtin.List.listExtendWith (.ref S) (.ref z) .none) _ _ s
  refine wpAny_bind ?_
  unfold Builtin.List.listItems
  refine wpAny_bind (wpAny_seqItems hS rfl (wpAny_pure ?_))
  show wpAny _ _ (updateSeq S (fun _ => #[]) >>= fun _ => letGo (#[] : Array Value).toList.reverse >>= fun _ => Builtin.List.listExtendWith (.ref S) (.ref z) .none) _ _ s
  refine wpAny_bind (wpAny_updateSeq hS rfl ?_)
  have hS₂ := Heap.get?_update_self (Obj.mapSeq (fun _ => (#[] : Array Value))) hS rfl
  have oth : ∀ b o, b ≠ S → s.heap.get? b = some o → (s.heap.update S (Obj.mapSeq (fun _ => (#[] : Array Value)))).get? b = some o :=
    fun b o hb e => (Heap.get?_update_other _ _ (Ne.symm hb)).trans e
  refine wpAny_bind (wpAny_letGo ?_)
  refine zl_extend Sp D1 D2 (ZNew.keep D1 D2 hv fun b o hb e => oth b o ?_ e) S low lf1 lf2 .none _ hS₂ (fun h' tk acc c as hk hS' hl hG hacc => ?_) hn
  · rcases hb with q | q | q | q | q
    · rw [q]; exact Nat.ne_of_lt low.1
    · rw [q]; exact Nat.ne_of_lt low.2.1
    · rw [q]; exact Nat.ne_of_lt low.2.2.1
    · exact Nat.ne_of_lt (lf1 b q)
    · exact Nat.ne_of_lt (lf2 b q)
  · exact hR h' tk acc c as (fun b o h0 h1 h2 h3 h4 e => hk b o h0 h1 h2 h3 h4 (oth b o h0 e)) hS' hl hG hacc
theorem zl_call {Q : Value → Shared → Prop} (Sp : ZipSep2 z TI TO i1 i2 fp1 fp2) (D1 : Draws prog w A.in1.in1.in1 i1 fp1 n1 P1 St1) (D2 : Draws prog w A.in1.in1.in1 i2 fp2 n2 P2 St2) (hv : ZNew z TI TO i1 i2 St1 St2 s.heap)
    (low : z < s.heap.objs.size ∧ TI < s.heap.objs.size ∧ TO < s.heap.objs.size ∧ i1 < s.heap.objs.size ∧ i2 < s.heap.objs.size) (lf1 : ∀ b ∈ fp1, b < s.heap.objs.size) (lf2 : ∀ b ∈ fp2, b < s.heap.objs.size) (hn : min n1 n2 ≤ sizeLine)
    (hQ : ∀ h' tk acc c as, (∀ b o, b ≠ z → b ≠ TO → b ≠ i1 → b ≠ i2 → s.heap.get? b = some o → h'.get? b = some o) → h'.get? s.heap.objs.size = some { cls := .type "list", dict := none, data := .seq acc c, slots := #[] } → as.length = min n1 n2 → ZipG P1 P2 s.heap.objs.size h' as →
      acc.toList = as.map Value.ref → Q (.ref s.heap.objs.size) { s with heap := h', toks := tk }) :
    wpAny (model prog w) A (call (.type "list") [.ref z]) Q E s := by
  refine callType_codes (Q₁ := fun obj s₁ => obj = .ref s.heap.objs.size ∧ s₁ = { s with heap := s.heap.push { cls := .type "list", data := .seq #[] } }) PySem.F.called_list (PySem.F.typeCall_list_1 _) PySem.F.entry_list_init
    (code_list_new _ ⟨rfl, rfl⟩) fun obj s₁ h₁ => ?_
  obtain ⟨rfl, rfl⟩ := h₁
  have hS : (s.heap.push { cls := .type "list", data := .seq #[] }).get? s.heap.objs.size = some { cls := .type "list", data := .seq #[] } := Heap.get?_push_size _ rfl
  refine ⟨⟨_, hS, rfl⟩, PySem.F.args_list_init_2 _ _, zl_init (A := A.in1) Sp D1 D2 (ZNew.keep D1 D2 hv fun b o _ e => Heap.get?_push_of_some _ e) _ low lf1 lf2 hS (fun h' tk acc c as hk hS' hl hG hacc => ?_) hn⟩
  exact ⟨rfl, hQ h' tk acc c as (fun b o h1 h2 h3 h4 e => hk b o (Nat.ne_of_lt (Heap.lt_size e)) h1 h2 h3 h4 (Heap.get?_push_of_some _ e)) hS' hl hG hacc⟩
end

/-! ### x[i:j:k] of a text -/
def stepS (z : Str) (l u : Option Int) (k : Int) : Str :=
  if (k == 1 && (Builtin.Str.strSliceIndices l u k z.length).length == z.length) = true then z else ⟨((Builtin.Str.strSliceIndices l u k z.length).filterMap (z.cps[·]?)).toArray⟩
theorem stepS_length (z : Str) (l u : Option Int) (k : Int) (hk : k ≠ 0) : (stepS z l u k).length ≤ z.length := by
  unfold stepS
  split
  · exact Nat.le_refl _
  · show (List.filterMap _ (Builtin.Str.strSliceIndices l u k z.length)).toArray.size ≤ z.length
    rw [List.size_toArray]
    exact Nat.le_trans (List.length_filterMap_le _ _) (sliceIndicesBy_le _ _ _ hk z.length)
section
variable {X : Cx} {e st : Expr} {lo hi : Option Expr} {te : TE} {tl th ts : TO} {p2 pos : Pos}
def tStepS (te : TE) (tl th ts : TO) : TE := fun σ H Q => te σ H fun x H1 => tl σ H1 fun l H2 => th σ H2 fun u H3 => ts σ H3 fun k H4 => ∃ (z : Str) (i : Int), x = .str z ∧ k = some i ∧ i ≠ 0 ∧ z.length ≤ sizeLine ∧ Q (.str (stepS z l u i)) H4
theorem pe_stepS (he : PE X e te) (hl : PO X lo tl) (hu : PO X hi th) (hst : PO X (some st) ts) : PE X (.Subscript e (.Slice lo hi (some st) p2) pos) (tStepS te tl th ts) := by
  refine ⟨fun pins s σ H Q I h => ?_⟩
  refine Subscript_ (thn (he.run pins s σ H _ I h) fun v s1 ⟨x, H1, I1, r1, q1⟩ => ?_)
  refine wpAny_Slice (thn (hl.run pins s1 σ H1 _ I1 q1) fun vl s2 ⟨l, H2, I2, pl, q2⟩ => thn (hu.run pins s2 σ H2 _ I2 q2) fun vu s3 ⟨u, H3, I3, pu, q3⟩ => thn (hst.run pins s3 σ H3 _ I3 q3) fun vk s4 ⟨k, H4, I4, pk, q4⟩ => ?_)
  have I5 : Inv X pins σ H4 { s4 with heap := s4.heap.push { cls := .type "slice", data := .fields #[vl, vu, vk] } } := I4.kept (t' := s4.toks) fun b ob q => Heap.get?_push_of_some _ q
  obtain ⟨z, i, rfl, rfl, hi0, hz, q⟩ := q4
  obtain ⟨t, rfl⟩ := r1
  obtain ⟨l', rfl, rfl⟩ := IsPart.raw pl
  obtain ⟨u', rfl, rfl⟩ := IsPart.raw pu
  obtain ⟨k', rfl, ek⟩ := IsPart.raw pk
  have hlen := stepS_length z (l'.map (·.1)) (u'.map (·.1)) i hi0
  have ek2 : ((k'.map (·.1)).getD 1) = i := by rw [ek]; rfl
  show wpAny (model X.prog X.w) X.A (subscriptTail e (.Slice lo hi (some st) p2) (.str z t) (.ref s4.heap.objs.size)) (EP X pins σ Q) X.xe { s4 with heap := s4.heap.push { cls := .type "slice", data := .fields #[partValue l', partValue u', partValue k'] } }
  refine tail_any (ops := [.str z t, .ref s4.heap.objs.size]) (typeIs_str _ _ _) F.slot_str_getitem.lookup ?_ (by with_unfolding_all rfl)
  refine wpAny_getItem_str_slice (l := l') (u := u') (st := k') ⟨_, Heap.get?_push_size _ rfl, rfl, rfl⟩ (by rw [ek2]; simpa using hi0) ?_
  unfold stepS at q hlen
  show Made.post (if ((k'.map (·.1)).getD 1 == 1 && (Builtin.Str.strSliceIndices (l'.map (·.1)) (u'.map (·.1)) ((k'.map (·.1)).getD 1) z.length).length == z.length) = true then Made.val (.str z t)
    else Made.str ⟨((Builtin.Str.strSliceIndices (l'.map (·.1)) (u'.map (·.1)) ((k'.map (·.1)).getD 1) z.length).filterMap (z.cps[·]?)).toArray⟩) (EP X pins σ Q) _
  rw [ek2]
  by_cases c : (i == 1 && (Builtin.Str.strSliceIndices (l'.map (·.1)) (u'.map (·.1)) i z.length).length == z.length) = true
  · rw [if_pos c] at q ⊢
    exact ⟨.str z, H4, I5, ⟨t, rfl⟩, q⟩
  · rw [if_neg c] at q hlen ⊢
    exact ⟨Nat.le_trans hlen hz, .str _, H4, I5.tok _, ⟨_, rfl⟩, q⟩
end
end FYR

set_option Elab.async false
set_option linter.all false
set_option maxRecDepth 100000
set_option maxHeartbeats 4000000
namespace FYR
open PySem PySem.Spec PyProof.Rows L2
/-- pairs tracked at their addresses -/
def putP : Hp → List Addr → List (V × V) → Hp
  | H, a :: as, p :: ps => putP (upd H a (.tup [p.1, p.2])) as ps
  | H, _, _ => H
theorem putP_off {b : Addr} : ∀ (as : List Addr) (ps : List (V × V)) (H : Hp), b ∉ as → putP H as ps b = H b
  | [], _, _, _ => rfl
  | _ :: _, [], _, _ => rfl
  | a :: as, p :: ps, H, h => by
    show putP (upd H a (.tup [p.1, p.2])) as ps b = H b
    rw [putP_off as ps _ (fun z => h (List.mem_cons_of_mem _ z)), upd_ne (fun z => h (by rw [z]; exact List.mem_cons_self))]
theorem putP_at : ∀ (as : List Addr) (ps : List (V × V)) (H : Hp), as.length = ps.length → as.Nodup → Paired (fun (t : Addr) (p : V × V) => putP H as ps t = some (.tup [p.1, p.2])) as ps
  | [], [], _, _, _ => .nil
  | [], _ :: _, _, h, _ => by cases h
  | _ :: _, [], _, h, _ => by cases h
  | a :: as, p :: ps, H, h, hn => by
    have hn' := List.nodup_cons.mp hn
    have ih := putP_at as ps (upd H a (.tup [p.1, p.2])) (Nat.succ.inj h) hn'.2
    refine .cons ?_ ih
    show putP (upd H a (.tup [p.1, p.2])) as ps a = some (.tup [p.1, p.2])
    rw [putP_off as ps _ hn'.1, upd_same]
def sg (c : Nat) : V := .str ⟨#[c]⟩
/-- the pairs of two texts -/
def zipV (x y : Str) : List (V × V) := (x.cps.toList.zip y.cps.toList).map fun p => (sg p.1, sg p.2)
theorem zipV_len (x y : Str) : (zipV x y).length = min x.cps.size y.cps.size := by simp [zipV]
def tListZip (ta : TA) : TE := fun σ H Q => ta σ H fun vs H1 => ∃ x y : Str, vs = [.str x, .str y] ∧ x.length ≤ sizeLine ∧
  ∀ (H' : Hp) (p : Addr) (ts : List Addr), (∀ b o, H1 b = some o → H' b = some o) → H1 p = none → (∀ t ∈ ts, H1 t = none) → p ∉ ts → H' p = some (.lst (ts.map V.ref)) → Paired (fun (t : Addr) (q : V × V) => H' t = some (.tup [q.1, q.2])) ts (zipV x y) → Q (.ref p) H'
section
variable {X : Cx} {e e2 : Expr} {ta : TA} {p pz apos cpos pos : Pos}
theorem zips_laid {pins : List (Addr × Obj)} {σ : L2.St} {H : Hp} {s : Shared} {h' : Heap} {tk : Nat} {lo : Addr} {ps : List (V × V)} {acc : Array Value} {c : Nat} {as : List Addr} (I : Inv X pins σ H s) (hlo : s.heap.objs.size ≤ lo) (hz : ps.length ≤ sizeLine)
    (hk : ∀ b o, s.heap.get? b = some o → h'.get? b = some o) (hS : h'.get? lo = some { cls := .type "list", dict := none, data := .seq acc c, slots := #[] }) (hl : as.length = ps.length) (rise : as.Pairwise (· < ·)) (above : ∀ a ∈ as, lo < a)
    (prs : ∀ (j : Nat) (a : Addr) (q : V × V), as[j]? = some a → ps[j]? = some q → ∃ x1 x2, RelV q.1 x1 ∧ RelV q.2 x2 ∧ IsTupOf2 h' a x1 x2) (hacc : acc.toList = as.map Value.ref) :
    ∃ H' : Hp, (∀ b o, H b = some o → H' b = some o) ∧ H lo = none ∧ (∀ t ∈ as, H t = none) ∧ lo ∉ as ∧ H' lo = some (.lst (as.map V.ref)) ∧ Paired (fun (t : Addr) (q : V × V) => H' t = some (.tup [q.1, q.2])) as ps ∧ Inv X pins σ H' { s with heap := h', toks := tk } := by
  have hSn : lo ∉ as := fun z => Nat.lt_irrefl _ (above _ z)
  have nd : as.Nodup := List.Pairwise.imp (fun {a b} (h : a < b) => Nat.ne_of_lt h) rise
  have new : ∀ t ∈ as, H t = none := fun t ht => I.hok.fresh (Nat.le_trans hlo (Nat.le_of_lt (above t ht)))
  have newS : H lo = none := I.hok.fresh hlo
  have atP := putP_at as ps (upd H lo (.lst (as.map V.ref))) hl nd
  have off : ∀ b, b ∉ as → b ≠ lo → putP (upd H lo (.lst (as.map V.ref))) as ps b = H b := fun b h1 h2 => by rw [putP_off as ps _ h1, upd_ne h2]
  have low : ∀ b o, s.heap.get? b = some o → b ∉ as ∧ b ≠ lo := fun b o e => ⟨fun z => absurd (Heap.lt_size e) (Nat.not_lt.mpr (Nat.le_trans hlo (Nat.le_of_lt (above b z)))), Nat.ne_of_lt (Nat.lt_of_lt_of_le (Heap.lt_size e) hlo)⟩
  have kp : ∀ b u, H b = some u → (putP (upd H lo (.lst (as.map V.ref))) as ps) b = some u := fun b u e => by
    rw [off b (fun z => by rw [new b z] at e; cases e) (fun z => by rw [z, newS] at e; cases e)]
    exact e
  have eS : putP (upd H lo (.lst (as.map V.ref))) as ps lo = some (.lst (as.map V.ref)) := by rw [putP_off as ps _ hSn, upd_same]
  refine ⟨putP (upd H lo (.lst (as.map V.ref))) as ps, kp, newS, new, hSn, eS, atP, ?_⟩
  refine I.call' (ch := []) rfl ⟨fun b o q _ _ _ => hk b o q, fun b o q _ _ _ => ⟨o.slots, hk b o q⟩, fun b o q n _ => ?_, fun b o q _ => ⟨o, hk b o q⟩, fun b xs q => kp b _ q, fun b o u q => kp b _ q, fun b ps q => ⟨#[], by rw [kp b _ q]; simp⟩⟩ (fun b u q => ?_) I.bare fun b z => by simp at z
  · obtain ⟨z1, z2⟩ := low b o q
    rw [off b z1 z2]
    exact n
  · by_cases hb : b ∈ as
    · obtain ⟨j, pk, e1, e2, e3⟩ := LiI.paired_ix atP hb
      rw [e3] at q
      cases q
      obtain ⟨x1, x2, r1, r2, f3⟩ := prs j b pk e1 e2
      exact ⟨by show 2 ≤ sizeLine; decide, [x1, x2], .cons r1 (.cons r2 .nil), ⟨_, f3, rfl, _, rfl⟩⟩
    · by_cases hb2 : b = lo
      · rw [hb2] at q ⊢
        rw [eS] at q
        cases q
        refine ⟨by rw [List.length_map]; omega, acc.toList, c, by rw [hacc]; exact LiI.vals_refs as, ?_⟩
        rw [Array.toArray_toList]
        exact hS
      · rw [off b hb hb2] at q
        exact (I.hok b u q).stay (fun d v _ y => hk d v y) (fun d y => kp d _ y) fun d xs y => kp d _ y
/-- list(zip(e, e2)) of two texts -/
theorem pe_listZip (hc : X.calm = true) (ha : PA X [e, e2] ta) (hg : Gl X "list") (hm : X.mg "list" = none) (hg2 : Gl X "zip") (hm2 : X.mg "zip" = none)
    (hs : starEach [.Call (.Name "zip" pz) [e, e2] [] cpos] X.env = (false, eval (.Call (.Name "zip" pz) [e, e2] [] cpos) X.env) :: starEach [] X.env := by rfl)
    (hs2 : starEach [e, e2] X.env = (false, eval e X.env) :: starEach [e2] X.env := by rfl) (hpl : (backTo cpos (starEach [e2] X.env)).any (·.1) = false := by rfl) :
    PE X (.Call (.Name "list" p) [.Call (.Name "zip" pz) [e, e2] [] cpos] [] pos) (tListZip ta) := by
  refine ⟨fun pins s σ H Q I hq => ?_⟩
  refine wpAny_Call_Name_kw (ld_blt I hg hm boot_list ?_)
  refine PyProof.Rows.callWith_type1 ?_ hs rfl
  rw [hs]
  show wpAny _ _ (spliced ((false, eval (.Call (.Name "zip" pz) [e, e2] [] cpos) X.env) :: backTo pos (starEach [] X.env))) _ _ s
  refine Calls.spliced_cons ?_
  refine Call_ (ld_blt I hg2 hm2 PyProof.Rows.boot_zip (PyProof.Rows.callWith_type1 (thn (ha.run cpos pins s σ H _ I hq) fun us s1 ⟨vs, H1, I1, r1, q1⟩ => ?_) hs2 hpl))
  obtain ⟨x, y, ex, hx, q1⟩ := q1
  subst ex
  cases r1 with
  | cons r rr =>
    cases rr with
    | cons r' rr =>
      cases rr
      obtain ⟨t, rfl⟩ := r
      obtain ⟨u, rfl⟩ := r'
      have hh : X.A.in1.in1.in1.handled = none := I1.ok.hd hc
      refine zip_begins2 (begins_text x t) (begins_text y u) trivial trivial fun h' hz hTI hTO h1 h2 hsz hk => ?_
      refine Calls.spliced_nil ?_
      have e1 : h'.IsStrIter s1.heap.objs.size (strIterType x) x t 0 := ⟨_, h1, rfl, rfl⟩
      have e2' : h'.IsStrIter (s1.heap.objs.size + 1) (strIterType y) y u 0 := ⟨_, h2, rfl, rfl⟩
      have hx' : min x.cps.size y.cps.size ≤ sizeLine := Nat.le_trans (Nat.min_le_left _ _) hx
      have low5 : s1.heap.objs.size + 4 < h'.objs.size ∧ s1.heap.objs.size + 2 < h'.objs.size ∧ s1.heap.objs.size + 3 < h'.objs.size ∧ s1.heap.objs.size < h'.objs.size ∧ s1.heap.objs.size + 1 < h'.objs.size := by
        rw [hsz]
        exact ⟨Nat.add_lt_add_left (by decide) _, Nat.add_lt_add_left (by decide) _, Nat.add_lt_add_left (by decide) _, Nat.lt_add_of_pos_right (by decide), Nat.add_lt_add_left (by decide) _⟩
      have lowA : ∀ b ∈ ([s1.heap.objs.size] : List Addr), b < h'.objs.size := fun b hb => by
        rw [List.mem_singleton.mp hb]
        exact low5.2.2.2.1
      have lowB : ∀ b ∈ ([s1.heap.objs.size + 1] : List Addr), b < h'.objs.size := fun b hb => by
        rw [List.mem_singleton.mp hb]
        exact low5.2.2.2.2
      refine zl_call (s := { s1 with heap := h' }) (A := X.A) (zip_sep2 (fp1 := []) (fp2 := []) (by simp) (by simp)) (Draws.text hh s1.heap.objs.size x t) (Draws.text hh (s1.heap.objs.size + 1) y u) ⟨hTI, e1, e2', hz, _, _, hTO⟩
        low5 lowA lowB hx'
        fun h'' tk acc c as hk2 hS hl hG hacc => ?_
      obtain ⟨H', k1, k2, k3, k4, k5, k6, J⟩ := zips_laid (tk := tk) (lo := h'.objs.size) (ps := zipV x y) I1 (by rw [hsz]; exact Nat.le_add_right _ _) (by rw [zipV_len]; exact hx') (fun b o e => hk2 b o
          (Nat.ne_of_lt (Nat.lt_of_lt_of_le (Heap.lt_size e) (Nat.le_add_right _ _))) (Nat.ne_of_lt (Nat.lt_of_lt_of_le (Heap.lt_size e) (Nat.le_add_right _ _))) (Nat.ne_of_lt (Heap.lt_size e)) (Nat.ne_of_lt (Nat.lt_of_lt_of_le (Heap.lt_size e) (Nat.le_add_right _ _))) (hk b o e)) hS (by rw [zipV_len]; exact hl) hG.rise hG.above
        (fun j a q ea eq => by
          obtain ⟨x1, x2, ⟨c1, t1, ec1, rfl⟩, ⟨c2, t2, ec2, rfl⟩, f3⟩ := hG.pairs j a ea
          have ez : (zipV x y)[j]? = some (sg c1, sg c2) := by
            simp [zipV, List.zip, List.getElem?_zipWith, ec1, ec2]
          rw [ez] at eq
          cases eq
          exact ⟨_, _, ⟨t1, rfl⟩, ⟨t2, rfl⟩, f3⟩) hacc
      exact ⟨.ref _, H', J, rfl, q1 H' _ as k1 k2 k3 k4 k5 k6⟩
end
end FYR

set_option Elab.async false
set_option linter.all false
set_option maxRecDepth 100000
set_option maxHeartbeats 4000000
/-! the rules with the written part named (for comprehensions' blocks) -/
namespace FYR
open PySem PySem.Spec PyProof.Rows L2
section
variable {X : Cx} (K : PySem.W.Frag) (hK : X.K = K)
include hK
theorem kIn : OpR X (compareOp .In) (rIn K false) := by subst hK; exact op_in_seq
theorem kNotIn : OpR X (compareOp .NotIn) (rIn K true) := by subst hK; exact op_notIn_seq
theorem kEqD (hu : X.A.units + 64 < cLine) : OpR X (compareOp .Eq) (rEqD K) := by subst hK; exact op_eqD hu
theorem kNeD (hu : X.A.units + 64 < cLine) : OpR X (compareOp .NotEq) (rNeD K) := by subst hK; exact op_neD hu
theorem kIxT : IxR X (rIxT K) := by subst hK; exact ix_tup
theorem kIxL : IxR X (rIxL K) := by subst hK; exact ix_list
theorem kSlT : SlR X (rSlT K) := by subst hK; exact sl_tup
theorem kSlL : SlR X (rSlL K) := by subst hK; exact sl_list
theorem kCatT : OpR X (binaryOp .Add) (rCatT K) := by subst hK; exact op_catT
theorem kIsi : CallR X (.builtin "isinstance") (rIsi K) := by subst hK; exact call_isi
def rLenK (K : PySem.W.Frag) : List V → Hp → VK → Prop := fun xs H Q => ∃ p ys, xs = [.ref p] ∧ (SqL K H p ys ∨ SqT K H p ys) ∧ Q (.int ys.length) H
theorem kLen : CallR X (.builtin "len") (rLenK K) := by subst hK; exact call_len_seq
theorem kAll (hc : X.calm = true) : CallR X (.builtin "all") (rAll K) := by subst hK; exact cr_all hc
theorem kSum (hc : X.calm = true) : CallR X (.builtin "sum") (rSum K) := by subst hK; exact cr_sum hc
theorem kExtT : MtM X "list.extend" (rExtendT K) := by subst hK; exact mt_extendT
theorem kTupG {es : List Expr} {k : Nat} {t : TGs} {n : Nat} {pos : Pos} (hc : X.calm = true) (h : PGs X es t)
    (hn : (assignEach es X.env).length = n := by rfl) (hst : (assignEach es X.env).findIdx? (·.1) = none := by rfl) : PG X (.Tuple es k pos) (gTup K n t) := by subst hK; exact pg_tup hc h hn hst
theorem kList {tg l : Expr} {tl : TE} (hl : PE X l tl) : PI X tg l (iList K tl) := by subst hK; exact pi_list hl
theorem kTup {tg l : Expr} {tl : TE} (hl : PE X l tl) : PI X tg l (iTup K tl) := by subst hK; exact pi_tup hl
def rJoin (K : PySem.W.Frag) : V → List V → Hp → VK → Prop := fun x xs H Q => ∃ a p, ∃ ys : List Str, x = .str a ∧ xs = [.ref p] ∧ (SqL K H p (ys.map V.str) ∨ SqT K H p (ys.map V.str)) ∧ (ys.map (·.length)).sum + ys.length * a.length ≤ 16777216 ∧ Q (.str (Txt.join a ys)) H
theorem kJoin {o e : Expr} {to te : TE} {apos pos : Pos} (ho : PE X o to) (he : PE X e te) (hs : starEach [e] X.env = [(false, eval e X.env)] := by rfl) (hbase : attributeBase o "join" X.env (eval o X.env) = eval o X.env := by rfl) (hline : (apos.endLine == pos.line) = true := by rfl) :
    PE X (.Call (.Attribute o "join" apos) [e] [] pos) (tM1 (rJoin K) to te) := by subst hK; exact pe_join ho he hs hbase hline
section
variable {o e : Expr} {es : List Expr} {to : TE} {t : TA} {name : Str} {apos cpos : Pos} {T id : String} {r : V → List V → Hp → VK → Prop}
theorem kBm0 (pa : PlainAttrs T) (slot : Slot T name id) (hty : typeOf (.builtin id) = pure (.type "method_descriptor")) (hm : MtR X id r) (ho : PE X o to)
    (hbase : attributeBase o name X.env (eval o X.env) = eval o X.env := by rfl) (hline : (apos.endLine == cpos.line) = true := by rfl) : PE X (.Call (.Attribute o name apos) [] [] cpos) (tBM0 K T r to) := by subst hK; exact pe_bm0 pa slot hty hm ho hbase hline
theorem kBm (pa : PlainAttrs T) (slot : Slot T name id) (hty : typeOf (.builtin id) = pure (.type "method_descriptor")) (hm : MtR X id r) (ho : PE X o to) (ha : PA X (e :: es) t)
    (hbase : attributeBase o name X.env (eval o X.env) = eval o X.env := by rfl)
    (hfew : ((backTo cpos (starEach (e :: es) X.env)).all (fun x => !x.1) && (backToKw cpos (keywordEach [] X.env)).all (fun x => x.1.isSome)
      && decide ((e :: es).length + ([] : List Keyword).length + (if ([] : List Keyword).isEmpty then 0 else 1) < 30)) = true := by rfl)
    (hline : (apos.endLine == cpos.line) = true := by rfl) (hs : starEach (e :: es) X.env = (false, eval e X.env) :: starEach es X.env := by rfl) (hplain : (backTo cpos (starEach es X.env)).any (·.1) = false := by rfl) :
    PE X (.Call (.Attribute o name apos) (e :: es) [] cpos) (tBM K T r to t) := by subst hK; exact pe_bm pa slot hty hm ho ha hbase hfew hline hs hplain
end
theorem kRepr {k : Nat} (hgd : X.A.guards = some []) (hr : Room k X.A) : CallR X (.builtin "repr") (rReprD K) := by subst hK; exact call_reprD hgd hr
end
/-! slots and classes as values in short -/
section
variable {X : Cx}
theorem pTy {T : String} {x : Str} {pos : Pos} (hg : Gl X x) (hm : X.mg x = none) (hv : bootBuiltins x = some (.type T)) (hn : x ≠ "__name__" := by decide) (hd : (x == ("__debug__" : Str)) = false := by decide) : PE X (.Name x pos) (tC (.ty T)) := pe_bltn hg hm hv rfl hn hd
end
end FYR

set_option Elab.async false
set_option linter.all false
set_option maxRecDepth 100000
set_option maxHeartbeats 4000000
/-! more rules with the written part named -/
namespace FYR
open PySem PySem.Spec PyProof.Rows L2
section
variable {X : Cx} (K : PySem.W.Frag) (hK : X.K = K)
include hK
theorem kFld {e : Expr} {ta : TE} {f : Str} {pos : Pos} (he : PE X e ta) (hb : attributeBase e f X.env (eval e X.env) = eval e X.env := by rfl) : PE X (.Attribute e f pos) (tFld K ta f) := by subst hK; exact pe_fld he hb
theorem kIsiT : CallR X (.builtin "isinstance") (rIsiT K) := by subst hK; exact call_isiT
theorem kEnum {e : Expr} {ta : L2.TA} {p pos tpos : Pos} {elts : List Expr} {kk : Nat} (hg : Gl X "enumerate") (hm : X.mg "enumerate" = none) (ha : PA X [e] ta) (hs : starEach [e] X.env = [(false, eval e X.env)] := by rfl) :
    PI X (.Tuple elts kk tpos) (.Call (.Name "enumerate" p) [e] [] pos) (iEnum K ta) := by subst hK; exact pi_enum hg hm ha hs
theorem kSetF {o value : Expr} {ta tv : TE} {f : Str} {pos pos' : Pos} (ha : PE X o ta) (hv : PE X value tv) (hs : swapsWith value (some (.Attribute o f pos')) pos.line X.env = pure false := by rfl) : PS X (.Assign [.Attribute o f pos'] value pos) (sFld K ta tv f) := by subst hK; exact ps_fld ha hv hs
end
end FYR

set_option Elab.async false
set_option linter.all false
set_option maxRecDepth 100000
set_option maxHeartbeats 4000000
/-! != by an own ==, of instances and of tuples of them; a tuple times 0 and 1 -/
namespace FYR
open PySem PySem.Spec PyProof.Rows L2
open AutoSeq1 (wpAny_loadPart')
/-! ### tuple != tuple, all items equal -/
section
variable {prog : Program} {w : World} {A : Around} {R : Result → Shared → Prop}
theorem tup_ne (l b : Addr) (xs ys : Array Value) (n m : Nat) (d1 d2 : Option Addr) (s1 s2 : Array (Option Value)) (same : xs.size = ys.size) (G : Nat → Shared → Prop)
    (one : ∀ i (h1 : i < xs.size) (h2 : i < ys.size) s, G i s → wpAny (model prog w) A.in1 (eqBool xs[i] ys[i]) (fun r s' => r = true ∧ G (i + 1) s') (fun e s' => R (.error e) s') s)
    (fin : ∀ s, G xs.size s → R (.ok (.ret (.bool false))) s) {s : Shared} (hl : s.heap.get? l = some { cls := .type "tuple", dict := d1, data := .seq xs n, slots := s1 }) (hb : s.heap.get? b = some { cls := .type "tuple", dict := d2, data := .seq ys m, slots := s2 }) (g0 : G 0 s) :
    wpAny (model prog w) A.in1 (Builtin.«tuple.__ne__» ⟨[.ref l, .ref b], []⟩) (GQ.FinOf prog w A R) (fun e s' => R (.error e) s') s := by
  have sub2 := AutoSeq1.sub_tuple_tuple
  have zl : (xs.toList.zip ys.toList).length = xs.size := by simp [same]
  have g00 := g0
  obtain ⟨hp, gg, dd, tk, os⟩ := s
  wp_walk using wpAny_loadPart' hl, wpAny_loadPart' hb, wpAny_forIn_list _ (fun rest acc s' => acc.1 = none ∧ ∃ i, rest = (xs.toList.zip ys.toList).drop i ∧ i ≤ xs.size ∧ G i s') _
  case turn =>
    rintro ⟨u, v⟩ rest acc s' ⟨ea, i, er, le, gi⟩
    have lt : i < (xs.toList.zip ys.toList).length := Nat.lt_of_not_le fun q => by rw [List.drop_of_length_le q] at er; cases er
    have h1 : i < xs.size := by rw [← zl]; exact lt
    have h2 : i < ys.size := by rw [← same]; exact h1
    rw [List.drop_eq_getElem_cons lt] at er
    injection er with euv erest
    obtain ⟨rfl, rfl⟩ : u = xs[i] ∧ v = ys[i] := ⟨by simpa using congrArg Prod.fst euv, by simpa using congrArg Prod.snd euv⟩
    refine wpAny_bind (wpAny_mono (one i h1 h2 s' gi) (fun r s2 q2 => ?_) fun _ _ x => x)
    obtain ⟨rfl, q2⟩ := q2
    wp_walk
    exact ⟨rfl, i + 1, erest, h1, q2⟩
  case fin =>
    rintro ⟨a1, a2⟩ s' ⟨ea, i, er, le, gi⟩
    simp only at ea
    subst ea
    have ge : xs.size ≤ i := by
      rw [← zl]
      exact Nat.le_of_not_lt fun q => by rw [List.drop_eq_getElem_cons q] at er; cases er
    obtain rfl : i = xs.size := by omega
    have z := fin s' gi
    wp_walk
    simpa [Builtin.Tuple.tupleCompareSizes, same] using z
  case h => exact ⟨rfl, 0, rfl, Nat.zero_le _, g00⟩
end
def rNeG (D : Eqv) : R2 := fun x y H Q => D x y H ∧ ∀ H', Ext H H' → Q (.bl false) H'
section
variable {X : Cx} {n : Nat} {D : Eqv}
theorem op_neTupG (mon : Mon D) (eqs : EqG X n D) (hr : Room (n + 1) X.A) : OpR X (compareOp .NotEq) (rNeG (DTup X.K D)) := by
  intro pins s σ H x y v u Q I rx ry h
  obtain ⟨⟨a, b, xs, ys, rfl, rfl, ha, hb, p⟩, q⟩ := h
  cases rx
  cases ry
  obtain ⟨its, r, e, z⟩ := I.tuple ha
  obtain ⟨its2, r2, e2, z2⟩ := I.tuple hb
  have sb : Sub X (n + 1) X.A := ⟨hr, rfl⟩
  have hsz : its.toArray.size = its2.toArray.size := by rw [List.size_toArray, List.size_toArray, ← r.length, ← r2.length]; exact p.1
  obtain ⟨⟨c1, d1, dt1, s1⟩, g1, k1, n1, m1⟩ := e
  obtain ⟨⟨c2, d2, dt2, s2⟩, g2, k2, n2, m2⟩ := e2
  simp only at k1 m1 k2 m2
  subst k1 m1 k2 m2
  show wpAny (model X.prog X.w) X.A (richCompare .NotEq (.ref a) (.ref b)) (EP X pins σ Q) X.xe s
  refine wpAny_richCompare_same_room (op := .NotEq) ⟨_, g1, rfl⟩ ⟨_, g2, rfl⟩ F.slot_tuple_ne (GQ.call_here F.slot_tuple_ne ⟨_, g1, rfl⟩ F.entry_tuple_ne (F.args_tuple_ne_2 _ _) ?_) hr.units0
  exact tup_ne (R := wants (fun v s' => v ≠ .notImplemented ∧ EP X pins σ Q v s') X.xe) a b its.toArray its2.toArray n1 n2 d1 d2 s1 s2 hsz (fun _ s' => LoopI X pins σ H s') (fun i h1 h2 s' q => turnG mon eqs sb p r r2 i h1 h2 s' q)
    (fun s' ⟨H', I', ex⟩ => ⟨(fun z => nomatch z), .bl false, H', I', rfl, q H' ex⟩) g1 g2 ⟨H, I, Ext.rfl'⟩
end
/-! ### instance != instance by the class's own == -/
section
variable {M : Model} {prog : Program} {w : World} {A : Around} {E : Value → Shared → Prop} {s : Shared} {K : PySem.W.Frag} {x C : Addr} {ox : Obj} {od : Option Obj}
theorem bound_ne {args : List Value} {Q : Option Value → Shared → Prop} (kin : K.In s.heap) (ia : PySem.W.InstAt s.heap x ox C od) (hs : PySem.W.findIn K (.ref C) "__ne__" = some (some (.builtin "object.__ne__")))
    (h : wpAny M A (call (.builtin "object.__ne__") (.ref x :: args)) (fun v => Q (some v)) E s) : wpAny M A (callSpecialIfBound? (.ref x) "__ne__" args) Q E s := by
  simp only [callSpecialIfBound?, bindSpecialIfBound?]
  have tail : wpAny M A (call (.builtin "object.__ne__") ([.ref x] ++ args) >>= fun v => pure (some v)) Q E s := wpAny_bind (wpAny_mono h (fun v s' z => wpAny_pure z) fun _ _ z => z)
  refine wpAny_holding (wpAny_bind (wpAny_bind (wpAny_bind (ia.type.here ((PySem.W.looks_findIn kin hs).here ?_)))))
  refine wpAny_bind (wpAny_askSetting (wpAny_ite ?_))
  have bnd := F.cmp_object.ne.bind (.ref x)
  split
  · exact wpAny_bind (wpAny_of_eq bnd (wpAny_pure (by exact tail)))
  · exact wpAny_tryCatch (wpAny_bind (wpAny_of_eq bnd (wpAny_pure (by exact tail))))
theorem entry_ne {y f : Addr} {Q : Fin → Shared → Prop} (hu : A.units < cLine) (kin : K.In s.heap) (ia : PySem.W.InstAt s.heap x ox C od) (hs : PySem.W.findIn K (.ref C) "__eq__" = some (some (.ref f))) (hf : PySem.W.isFn K (.ref f) = true)
    (h : wpAny M A (call (.ref f) [.ref x, .ref y]) (fun v s' => v = .bool true ∧ Q (.done (.ret (.bool false))) s') E s) : wpAny M A (Builtin.«object.__ne__» ⟨[.ref x, .ref y], []⟩) Q E s := by
  unfold Builtin.«object.__ne__»
  repeat (first
    | with_reducible refine wpAny_cRoomFor hu ?_
    | (refine wpAny_bind (m := callSpecialIfBound? (.ref x) (Str.ofString "__eq__") [.ref y]) (PySem.W.ifBound_K kin ia hs hf (wpAny_mono h (fun r s' z => by
          obtain ⟨rfl, q⟩ := z
          repeat (first | exact q | exact wpAny_pure q | exact wpAny_truthy_bool q | (refine wpAny_bind (m := truthy (.bool _)) (wpAny_truthy_bool ?_)) | wp_step)) fun _ _ z => z)))
    | wp_step)
end
section
variable {X : Cx} {n : Nat} {CX : CXT} {C f : Addr} {fd : FuncData} {ps : List Str} {Rl : Addr → Addr → Hp → Prop} {E : XK}
theorem op_neIns (Fn : FnOk X.prog X.w X.K X.mg X.base CX n f fd ps (spEq Rl)) (hs : PySem.W.findIn X.K (.ref C) "__eq__" = some (some (.ref f))) (hn : PySem.W.findIn X.K (.ref C) "__ne__" = some (some (.builtin "object.__ne__")))
    (hm : PySem.W.mroIn X.K C (.type "object") = some true) (hf : PySem.W.isFn X.K (.ref f) = true) (hb : Binds X.K fd ps []) (hx : Passes CX X E) (hr : Room (n + 1) X.A) : OpR X (compareOp .NotEq) (rNeG (DIns C Rl)) := by
  intro pins s σ H x y v u Q I rx ry h
  obtain ⟨⟨a, b, dx, dy, fs, gs, rfl, rfl, ha, hb', hR⟩, q⟩ := h
  cases rx
  cases ry
  obtain ⟨mA, J, _⟩ := ins_get I.hok ha
  obtain ⟨mB, J2, _⟩ := ins_get I.hok hb'
  obtain ⟨od, J, _⟩ := J.look
  obtain ⟨od2, J2, _⟩ := J2.look
  have hsp : spEq Rl [.ref a, .ref b] H (fun v H' => v = .bl true ∧ Ext H H') E := ⟨a, b, rfl, hR, fun H' e => ⟨rfl, e⟩⟩
  have len := Fn.len _ _ _ _ hsp
  have e1 : Env0 X.prog X.w X.K X.mg X.base X.A.in1 X.stack s H := I.env0.in1
  have run : wpAny (model X.prog X.w) X.A.in1 (call (.ref f) [.ref a, .ref b]) (fun v s' => v = .bool true ∧ ∃ H', Inv X pins σ H' s' ∧ Ext H H') X.xe s := by
    refine wpAny_call (codeAny_mono (Fn.run X.A.in1 X.stack s H ⟨[.ref a, .ref b], []⟩ [.ref a, .ref b] [.ref a, .ref b] _ E hr.in1 e1 (by
      have z := hb s [.ref a, .ref b] I.kIn (by simpa using len)
      simpa using z) (.cons rfl (.cons rfl .nil)) hsp) fun r s' hq => ?_)
    cases r with
    | error e => exact hx pins σ H s e s' I hq
    | ok fl =>
      cases fl with
      | ret w =>
        obtain ⟨z, H', I', rz, ez, ex⟩ := I.after hq
        subst ez
        cases rz
        exact ⟨rfl, H', I', ex⟩
      | next => exact False.elim hq
      | brk => exact False.elim hq
      | cont => exact False.elim hq
  have u0 : X.A.units < cLine := hr.units0
  have u1 : X.A.in1.units < cLine := hr.in1.units0
  have ne1 : wpAny (model X.prog X.w) X.A (call (.builtin "object.__ne__") [.ref a, .ref b]) (fun v s' => v = .bool false ∧ ∃ H', Inv X pins σ H' s' ∧ Ext H H') X.xe s := by
    refine wpAny_call (codeAny_call_builtin F.cmp_object.ne.plain F.cmpEntry_ne (PySem.W.check_slot F.cmpKind_ne F.cmpSplit_ne (J.type.andThen (PySem.W.looks_mroIn I.kIn hm)) (F.cmpArgs_ne _ _) ?_))
    refine entry_ne (A := X.A.in1) u1 I.kIn J hs hf (wpAny_mono run (fun v s' z => ?_) fun _ _ z => z)
    exact ⟨z.1, rfl, z.2⟩
  have try1 : wpAny (model X.prog X.w) X.A (tryCompare (.ref a) "__ne__" (.ref b)) (fun r s' => r = some (.bool false) ∧ ∃ H', Inv X pins σ H' s' ∧ Ext H H') X.xe s := by
    unfold tryCompare
    refine wpAny_bind (bound_ne I.kIn J hn (wpAny_mono ne1 (fun v s' z => ?_) fun _ _ z => z))
    obtain ⟨rfl, z⟩ := z
    exact wpAny_pure ⟨rfl, z⟩
  show wpAny (model X.prog X.w) X.A (richCompare .NotEq (.ref a) (.ref b)) (EP X pins σ Q) X.xe s
  unfold richCompare
  simp only [oneThing_ref]
  refine wpAny_holding (wpAny_bind (wpAny_cRoomFor u0 ?_))
  refine wpAny_bind (J.type.here (wpAny_bind (J2.type.here ?_)))
  split
  · rename_i z
    simp at z
  · rw [cmpInfo_NotEq]
    dsimp only
    refine wpAny_bind (wpAny_pure ?_)
    simp only [Bool.false_eq_true, if_false]
    refine wpAny_bind (wpAny_mono try1 (fun r s' z => ?_) fun _ _ z => z)
    obtain ⟨rfl, H', I', ex⟩ := z
    exact wpAny_pure ⟨.bl false, H', I', rfl, q H' ex⟩
end
/-! ### a tuple times 0 or 1 -/
theorem tup_mul1 (l : Addr) (xs : Array Value) (n : Nat) (dd : Option Addr) (sl : Array (Option Value)) (u : Tok) :
    Meets (Builtin.«tuple.__mul__» ⟨[.ref l, .int 1 u], []⟩) (fun _ R s => s.heap.get? l = some { cls := .type "tuple", dict := dd, data := .seq xs n, slots := sl } ∧ R (.ok (.ret (Value.ref l))) s) :=
  .of_wp fun prog w A R s h => by
    obtain ⟨hp, g, d, tk, os⟩ := s
    obtain ⟨hl, h⟩ := h
    have f1 := AutoSeq1.idx_int
    have c1 : (xs.isEmpty || (1 : Int) == 1) = true := by simp
    wp_walk using wpAny_loadPart' hl
    exact ⟨_, rfl, h⟩
theorem tup_mul0 (l : Addr) (xs : Array Value) (n : Nat) (dd : Option Addr) (sl : Array (Option Value)) (u : Tok) (ne : xs.isEmpty = false) :
    Meets (Builtin.«tuple.__mul__» ⟨[.ref l, .int 0 u], []⟩) (fun _ R s => s.heap.get? l = some { cls := .type "tuple", dict := dd, data := .seq xs n, slots := sl } ∧
      R (.ok (.ret (Value.ref s.heap.objs.size))) { s with heap := s.heap.push { cls := Value.type "tuple", data := Data.seq #[] } }) :=
  .of_wp fun prog w A R s h => by
    obtain ⟨hp, g, d, tk, os⟩ := s
    obtain ⟨hl, h⟩ := h
    have f1 := AutoSeq1.idx_int
    have c1 : (xs.isEmpty || (0 : Int) == 1) = false := by rw [ne]; rfl
    have c2 : (decide ((0 : Int) ≤ 0) || xs.isEmpty) = true := by simp
    wp_walk using wpAny_loadPart' hl
    exact ⟨_, rfl, h⟩
def rRepA (K : PySem.W.Frag) : R2 := fun x y H Q => ∃ (l : Addr) (k : Nat) (xs : List V), x = .ref l ∧ y = .int (k : Nat) ∧ SqT K H l xs ∧ xs ≠ [] ∧ k ≤ 1000 ∧ xs.length ≤ 1000 ∧ (k = 1 → Q (.ref l) H) ∧ (k ≠ 1 → ∀ p, H p = none → Q (.ref p) (upd H p (.tup (List.replicate k xs).flatten)))
theorem kRepA {X : Cx} (K : PySem.W.Frag) (hK : X.K = K) : OpR X (binaryOp .Mult) (rRepA K) := by
  subst hK
  intro pins s σ H x y v u Q I rx ry h
  obtain ⟨l, k, xs, rfl, rfl, hT, hne, hk, hz, q1, q2⟩ := h
  match k, hk, q1, q2, ry with
  | k + 2, hk, q1, q2, ry => exact op_repT pins s σ H _ _ v u Q I rx ry ⟨l, _, xs, rfl, rfl, hT, hne, by omega, by omega, hz, fun p hp => by rw [Int.toNat_natCast]; exact q2 (by omega) p hp⟩
  | 0, hk, q1, q2, ry =>
    cases rx
    obtain ⟨t, rfl⟩ := ry
    obtain ⟨its, r, ⟨⟨cls, dd, data, sl⟩, ho, hc, n, hd⟩, hs⟩ := I.tuple hT
    simp only at hc hd
    subst hc hd
    have ie : its.toArray.isEmpty = false := by
      cases r with
      | nil => exact absurd rfl hne
      | cons _ _ => rfl
    refine wpAny_binaryOp_repeat_ref (T := "tuple") (U := "int") (by decide) ⟨_, ho, rfl⟩ (fun s' => typeIs_int s' _ t) noFill_tuple_mul F.fills_int_mul F.slot_int_rmul repeat_tuple F.slot_int_index.lookup
      (call_meets F.slot_int_rmul (typeIs_int s _ t) F.entry_int_rmul (F.args_int_rmul_2 _ _) (int_rmul_tuple _ t l its.toArray n dd sl)
        ⟨ho, rfl, ⟨_, ho, rfl⟩, call_meets F.slot_tuple_mul ⟨_, ho, rfl⟩ F.entry_tuple_mul (F.args_tuple_mul_2 _ _) (tup_mul0 l its.toArray n dd sl t ie) ⟨ho, ?_⟩⟩)
    refine ⟨.ref s.heap.objs.size, _, I.laid (t' := s.toks) (o := .tup []) (fun b ob q => Heap.get?_push_of_some _ q) (Nat.le_refl _) ⟨Nat.zero_le _, [], .nil, IsTup.new _ _⟩, rfl, q2 (by decide) _ (I.hok.fresh (Nat.le_refl _))⟩
  | 1, hk, q1, q2, ry =>
    cases rx
    obtain ⟨t, rfl⟩ := ry
    obtain ⟨its, r, ⟨⟨cls, dd, data, sl⟩, ho, hc, n, hd⟩, hs⟩ := I.tuple hT
    simp only at hc hd
    subst hc hd
    refine wpAny_binaryOp_repeat_ref (T := "tuple") (U := "int") (by decide) ⟨_, ho, rfl⟩ (fun s' => typeIs_int s' _ t) noFill_tuple_mul F.fills_int_mul F.slot_int_rmul repeat_tuple F.slot_int_index.lookup
      (call_meets F.slot_int_rmul (typeIs_int s _ t) F.entry_int_rmul (F.args_int_rmul_2 _ _) (int_rmul_tuple _ t l its.toArray n dd sl)
        ⟨ho, rfl, ⟨_, ho, rfl⟩, call_meets F.slot_tuple_mul ⟨_, ho, rfl⟩ F.entry_tuple_mul (F.args_tuple_mul_2 _ _) (tup_mul1 l its.toArray n dd sl t) ⟨ho, ?_⟩⟩)
    exact ⟨.ref l, H, I, rfl, q1 rfl⟩
theorem kInD {X : Cx} (K : PySem.W.Frag) (hK : X.K = K) (hu : X.A.units + 65 < cLine) : OpR X (compareOp .In) (rInD K) := by subst hK; exact op_inD hu
theorem kNotInD {X : Cx} (K : PySem.W.Frag) (hK : X.K = K) (hu : X.A.units + 65 < cLine) : OpR X (compareOp .NotIn) (rNotInD K) := by subst hK; exact op_notInD hu
theorem kSortT {X : Cx} (K : PySem.W.Frag) (hK : X.K = K) {d : Nat} {B : Int} (hd : 1 ≤ d) : CallR X (.builtin "sorted") (rSortU K d B) := by subst hK; exact cr_sortT hd
end FYR

set_option Elab.async false
set_option linter.all false
set_option maxRecDepth 100000
set_option maxHeartbeats 4000000
/-! len by an own __len__; properties, own == and own len of a class in short -/
namespace FYR
open PySem PySem.Spec PyProof.Rows L2
section
variable {X : Cx} {n : Nat} {C f : Addr} {fd : FuncData} {ps : List Str} {sp : Sp}
def rLenO (C : Addr) (sp : Sp) : List V → Hp → VK → Prop := fun xs H Q => ∃ (a dx : Addr) (fs : List (Str × V)), xs = [.ref a] ∧ H a = some (.ins C dx fs) ∧ sp [.ref a] H (fun v H' => ∃ k : Nat, v = .int (k : Nat) ∧ k ≤ 1000000 ∧ Q (.int (k : Nat)) H') C8.E0
theorem call_lenO (Fn : FnOk X.prog X.w X.K X.mg X.base C8.CX0 n f fd ps sp) (hs : PySem.W.findIn X.K (.ref C) "__len__" = some (some (.ref f))) (hf : PySem.W.isFn X.K (.ref f) = true) (hb : Binds X.K fd ps []) (hr : Room (n + 1) X.A) : CallR X (.builtin "len") (rLenO C sp) := by
  intro pins s σ H xs us Q I r h
  obtain ⟨a, dx, fs, rfl, ha, q⟩ := h
  obtain ⟨u, rfl, ru⟩ := r.one
  cases ru
  obtain ⟨mA, J, _⟩ := ins_get I.hok ha
  obtain ⟨od, J, _⟩ := J.look
  have spc : PySem.W.Looks (model X.prog X.w) s.heap (specialOf (.ref a) "__len__") (some (.ref f)) := J.type.andThen (PySem.W.looks_findIn I.kIn hs)
  have len := Fn.len _ _ _ _ q
  have e1 : Env0 X.prog X.w X.K X.mg X.base X.A.in1 X.stack s H := I.env0.in1
  have run : wpAny (model X.prog X.w) X.A.in1 (call (.ref f) [.ref a]) (fun v s' => ∃ k : Nat, ∃ t, v = .int (k : Nat) t ∧ k ≤ 1000000 ∧ ∃ H', Inv X pins σ H' s' ∧ Q (.int (k : Nat)) H') (fun _ _ => False) s := by
    refine wpAny_call (codeAny_mono (Fn.run X.A.in1 X.stack s H ⟨[.ref a], []⟩ [.ref a] [.ref a] _ C8.E0 hr.in1 e1 (by
      have z := hb s [.ref a] I.kIn (by simpa using len)
      simpa using z) (.cons rfl .nil) q) fun r s' hq => ?_)
    cases r with
    | error e => exact False.elim hq
    | ok fl =>
      cases fl with
      | ret w =>
        obtain ⟨z, H', I', rz, k, ez, kl, qk⟩ := I.after hq
        subst ez
        obtain ⟨t, rfl⟩ := rz
        exact ⟨k, t, rfl, kl, H', I', qk⟩
      | next => exact False.elim hq
      | brk => exact False.elim hq
      | cont => exact False.elim hq
  refine Calls.call_function_entry kind_len plain_len entry_len (args_len1 _) ?_
  unfold Builtin.«len»
  refine wpAny_bind (m := oneArg "len" _) (wpAny_pure ?_)
  refine wpAny_bind (m := callSpecial? (.ref a) (PySem.Str.ofString "__len__")) ?_
  simp only [callSpecial?]
  refine wpAny_bind (spc.here ?_)
  refine wpAny_holding (wpAny_bind ((PySem.W.bind_fn I.kIn _ (beq_iff_eq.mp hf)).here ?_))
  refine wpAny_bind (wpAny_mono run (fun v s' z => ?_) fun _ _ z => z.elim)
  obtain ⟨k, t, rfl, kl, H', I', qk⟩ := z
  refine wpAny_pure ?_
  refine wpAny_bind (wpAny_holding (wpAny_pure ?_))
  refine wpAny_bind (wpAny_letGo ?_)
  show wpAny _ _ (if ((k : Nat) : Int) < 0 then _ else _) _ _ _
  rw [if_neg (by omega)]
  show wpAny _ _ (if ((k : Nat) : Int) ≥ 2 ^ 63 then _ else _) _ _ _
  rw [if_neg (by omega)]
  exact wpAny_bind (wpAny_mkInt (wpAny_pure ⟨_, rfl, .int (k : Nat), H', I'.tok _, ⟨_, rfl⟩, qk⟩))
end
/-- the class at C has an own __len__ -/
structure LenC (P : Program) (w : World) (K : PySem.W.Frag) (mg : Str → Option Value) (base : Heap) (k : Nat) (C : Addr) (sp : Sp) : Prop where
  ex : ∃ (f : Addr) (fd : FuncData) (ps : List Str), FnOk P w K mg base C8.CX0 k f fd ps sp ∧ PySem.W.findIn K (.ref C) "__len__" = some (some (.ref f)) ∧ PySem.W.isFn K (.ref f) = true ∧ Binds K fd ps []
/-- the class at C has an own == -/
structure EqC (P : Program) (w : World) (K : PySem.W.Frag) (mg : Str → Option Value) (base : Heap) (k : Nat) (C : Addr) (R : Addr → Addr → Hp → Prop) : Prop where
  ex : ∃ (f : Addr) (fd : FuncData) (ps : List Str), FnOk P w K mg base C8.CX0 k f fd ps (spEq R) ∧ PySem.W.findIn K (.ref C) "__eq__" = some (some (.ref f)) ∧ PySem.W.isFn K (.ref f) = true ∧ Binds K fd ps []
  ne : PySem.W.findIn K (.ref C) "__ne__" = some (some (.builtin "object.__ne__"))
  hm : PySem.W.mroIn K C (.type "object") = some true
/-- .. a property -/
structure Prp (P : Program) (w : World) (K : PySem.W.Frag) (mg : Str → Option Value) (base : Heap) (k : Nat) (C : Addr) (x : Str) (sp : Sp) : Prop where
  ex : ∃ (p g : Addr) (fd : FuncData) (ps : List Str), Cls K C ∧ PropOf K C x p g ∧ FnOk P w K mg base C8.CX0 k g fd ps sp ∧ Binds K fd ps []
section
variable {X : Cx} {k j : Nat} {C : Addr} {sp : Sp} {R : Addr → Addr → Hp → Prop}
theorem kLenO (c : LenC X.prog X.w X.K X.mg X.base k C sp) (hr : Room j X.A) (hk : k + 1 ≤ j) : CallR X (.builtin "len") (rLenO C sp) := by
  obtain ⟨f, fd, ps, F, hs, hf, hb⟩ := c.ex
  exact call_lenO F hs hf hb (hr.mono hk)
theorem kEqO (c : EqC X.prog X.w X.K X.mg X.base k C R) (hr : Room j X.A) (hk : k ≤ j) : OpR X (compareOp .Eq) (rEqG (DIns C R)) := by
  obtain ⟨f, fd, ps, F, hs, hf, hb⟩ := c.ex
  exact op_eqG (rcG_ins F hs hf hb (C8.pass0 (E := C8.E0))) (hr.mono hk)
theorem kNeO (c : EqC X.prog X.w X.K X.mg X.base k C R) (hr : Room j X.A) (hk : k + 1 ≤ j) : OpR X (compareOp .NotEq) (rNeG (DIns C R)) := by
  obtain ⟨f, fd, ps, F, hs, hf, hb⟩ := c.ex
  exact op_neIns F hs c.ne c.hm hf hb (C8.pass0 (E := C8.E0)) (hr.mono hk)
theorem kNeTupO (K : PySem.W.Frag) (hK : X.K = K) (c : EqC X.prog X.w X.K X.mg X.base k C R) (mon : ∀ a b H H', Ext H H' → R a b H → R a b H') (hr : Room j X.A) (hk : k + 1 ≤ j) : OpR X (compareOp .NotEq) (rNeG (DTup K (DIns C R))) := by
  subst hK
  obtain ⟨f, fd, ps, F, hs, hf, hb⟩ := c.ex
  exact op_neTupG (mon_ins mon) (eqG_ins F hs hf hb (C8.pass0 (E := C8.E0))) (hr.mono hk)
theorem kPrp {x : Str} {e : Expr} {ta : TE} {pos : Pos} (c : Prp X.prog X.w X.K X.mg X.base k C x sp) (hr : Room j X.A) (hk : k + 1 ≤ j) (he : PE X e ta) (hab : attributeBase e x X.env (eval e X.env) = eval e X.env := by rfl) : PE X (.Attribute e x pos) (tProp C sp [] C8.E0 ta) := by
  obtain ⟨p, g, fd, ps, cl, hp, F, hb⟩ := c.ex
  exact pe_prop he cl hp F (hr.mono hk) hb .nil C8.pass0 hab
end
end FYR

set_option Elab.async false
set_option linter.all false
set_option maxRecDepth 100000
set_option maxHeartbeats 4000000
/-! dicts whose keys are tuples: comprehensions, update; enumerate of a tuple; a tuple taken no times or once -/
namespace FYR
open PySem PySem.Spec PyProof.Rows L2
/-! ### dict comprehensions -/
section
variable {X : Cx} {pins : List (Addr × Obj)} {σ : L2.St} {H : Hp} {s : Shared}
theorem dT_set {A : Around} {E : Value → Shared → Prop} {D b : Addr} {kvs : List (List Key × V)} {k : List Key} {z : V} {r : Value} {G : Unit → Shared → Prop} (hu : A.units < cLine) (I : Inv X pins σ H s)
    (hD : H D = some (.dT kvs)) (hb : H b = some (.tup (k.map kV))) (hl : kvs.length < sizeLine) (rz : RelV z r) (h : ∀ s', Inv X pins σ (upd H D (.dT (putK kvs k z))) s' → G () s') :
    wpAny (model X.prog X.w) A (dictSet D (.ref b) r) G E s := by
  obtain ⟨n1, nD, xs, rel, raw⟩ := dt_of I.hok hD
  have n2 := Paired.length rel
  have n3 := length_putK kvs k z
  refine wpAny_dictSet_heap (hsz := by omega) (show (tupleKind (mixKind X.prog X.w)).room A from hu) (key_of I.hok hb) raw fun h2 raw2 same => h _ ?_
  obtain ⟨q, es, ep, g1, g2, g3, g4, _, g5⟩ := raw2
  have keepT : ∀ c ys, H c = some (.tup ys) → upd H D (.dT (putK kvs k z)) c = some (.tup ys) := fun c ys ec => by
    rw [upd_ne (fun y => by rw [y, hD] at ec; cases ec)]
    exact ec
  exact d_write I (by rw [hD]; trivial) same ⟨q, g1⟩ ⟨by omega, nD, _, (rel.put k hb rz).keeps keepT, q, es, ep, g1, g2, g3, g4, g5⟩
end
/-- the reading: D is the new dict -/
def tDcT (wi : TI) (g : TG) (tt : TT) (tk tv : TE) (own : List Nat) : TE := fun σ H Q => wi σ H fun J H1 => ∀ D, H1 D = none →
  ∃ W : Nat → Nat → Hp → Prop, (∃ m, W 0 m (upd H1 D (.dT []))) ∧ ∀ i m H2, W i m H2 →
    (J.stop i H2 ∧ Q (.ref D) H2) ∨ (J.go i H2 ∧ ∃ Nx : Hp → Prop, (∀ H', Nx H' → ∃ m', m' < m ∧ W (i + 1) m' H') ∧
      ∀ x H', J.yld i H2 x H' → g x (wipe σ own) H' fun σ2 H3 => wipe σ2 own = wipe σ own ∧ tt σ2 H3 fun b H4 =>
        if b = true then tk σ2 H4 fun y H5 => tv σ2 H5 fun z H6 => ∃ kvs k a, y = .ref a ∧ H6 a = some (.tup (k.map kV)) ∧ H6 D = some (.dT kvs) ∧ kvs.length < sizeLine ∧ Nx (upd H6 D (.dT (putK kvs k z))) else Nx H4)
section
variable {X : Cx}
abbrev cvs (X : Cx) (scope : Scope) (n : Addr) : Env := compEnvC scope (cellsFrom (n + 1) scope.names (cloFrom X.env.cells scope.names [])) n X.env
theorem dcT_run {pins : List (Addr × Obj)} {s : Shared} {σ : L2.St} {H : Hp} {Q : VK} {kx vx tg iter : Expr} {ifs : List Expr} {scope : Scope} {own : List (Str × Nat)} {p1 p2 : Pos} {wi : TI} {g : TG} {tt : TT} {tk tv : TE} {sto : Option (Value → Sem Unit)} {Z : Value → Shared → Prop}
    (calm : X.calm = true) (nd : X.N.Nodup) (hu : X.A.units < cLine) (I : Inv X pins σ H s) (pi : PI X tg iter wi) (bo : BlkOk X.N X.env.scope scope own)
    (pG : ∀ (s' : Shared) (H' : Hp) (c : Addr) (l : List (Str × Addr)) (fs : List Addr), PG (X.blk s' H' scope (compEnvC scope l c X.env) fs) tg g)
    (pT : ∀ (s' : Shared) (H' : Hp) (c : Addr) (l : List (Str × Addr)) (fs : List Addr), PTs (X.blk s' H' scope (compEnvC scope l c X.env) fs) ifs tt)
    (pK : ∀ (s' : Shared) (H' : Hp) (c : Addr) (l : List (Str × Addr)) (fs : List Addr), PE (X.blk s' H' scope (compEnvC scope l c X.env) fs) kx tk)
    (pV : ∀ (s' : Shared) (H' : Hp) (c : Addr) (l : List (Str × Addr)) (fs : List Addr), PE (X.blk s' H' scope (compEnvC scope l c X.env) fs) vx tv)
    (nf : ∀ y, foldedSetIterable iter X.env y = pure y) (rd : tDcT wi g tt tk tv (own.map (·.2)) σ H Q)
    (last : ∀ D c s' m H', Inv X pins σ H' s' → Q (.ref D) H' → s'.heap.Ns c m → FpOk X pins H' c → compPost (model X.prog X.w) X.A X.xe sto Z (.ref D) c (.ok .next) s') :
    wpAny (model X.prog X.w) X.A (comprehension (.DictComp kx vx [⟨tg, iter, ifs, 0⟩] scope p1) scope X.env p2 newDict false (eval iter X.env) sto) Z X.xe s := by
  have clo : ∀ y ∈ scope.names, y.2 = .free → ∃ c, X.env.cells.lookup y.1 = some c := fun y my e => (bo.free y my e).elim (fun z => I.ok.has _ (.inl z)) fun z => I.ok.has _ (.inr z)
  refine wpAny_comprehension_free (use := sto) rfl nf (closure_ok clo) bo.kind (fun y my e => (bo.uniq y my).trans (by rw [e]))
    (thn (pi.run pins s σ H _ I rd) fun _ _ hx => thn hx fun _ sA hA => ?_)
  obtain ⟨it, fp, tn, J, HA, rfl, IA, TR, tA, fA, rA⟩ := hA
  refine wpAny_newObj_type (newEnv_comp ?_)
  obtain ⟨D, eD⟩ : ∃ D, D = sA.heap.objs.size := ⟨_, rfl⟩
  have freeD : HA D = none := by rw [eD]; exact IA.hok.fresh (Nat.le_refl _)
  obtain ⟨W, ⟨m0, w0⟩, steps⟩ := rA D freeD
  obtain ⟨sB, eB⟩ : ∃ sB : Shared, sB = { sA with heap := sA.heap.push { cls := .type "dict", data := .dict #[] } } := ⟨_, rfl⟩
  have hB : sB.heap = sA.heap.push { cls := .type "dict", data := .dict #[] } := by rw [eB]
  obtain ⟨HB, eHB⟩ : ∃ HB, HB = upd HA D (.dT []) := ⟨_, rfl⟩
  have IB : Inv X pins σ HB sB := by
    rw [eB, eHB]
    refine IA.laid (t' := sA.toks) (fun _ _ e => Heap.get?_push_of_some _ e) (Nat.le_of_eq eD.symm) ?_
    rw [eD]
    exact dt_empty sA.heap IA.big
  have lowA : ∀ b ∈ fp, b < sA.heap.objs.size := fun b mb => let ⟨o, e, _⟩ := TR.obj _ _ tA b mb; Heap.lt_size e
  have fB : ∀ b ∈ fp, FpOk X pins HB b ∧ b < sB.heap.objs.size := fun b mb => by
    have lt := lowA b mb
    refine ⟨⟨?_, (fA b mb).2⟩, ?_⟩
    · rw [eHB, upd_ne (fun z => by rw [z, eD] at lt; exact Nat.lt_irrefl _ lt)]
      exact (fA b mb).1
    · rw [hB, Heap.size_push]
      exact Nat.lt_succ_of_lt lt
  have tB : tn 0 sB.heap := TR.keep _ _ _ tA fun b _ o e => by rw [hB]; exact Heap.get?_push_of_some _ e
  have IC := block_start IB bo nd fB
  have eG := pG sB HB sB.heap.objs.size (cellsFrom (sB.heap.objs.size + 1) scope.names (cloFrom X.env.cells scope.names [])) fp
  have eT := pT sB HB sB.heap.objs.size (cellsFrom (sB.heap.objs.size + 1) scope.names (cloFrom X.env.cells scope.names [])) fp
  have eK := pK sB HB sB.heap.objs.size (cellsFrom (sB.heap.objs.size + 1) scope.names (cloFrom X.env.cells scope.names [])) fp
  have eV := pV sB HB sB.heap.objs.size (cellsFrom (sB.heap.objs.size + 1) scope.names (cloFrom X.env.cells scope.names [])) fp
  rw [← eD, ← eB]
  show codeAny _ _ (.compStart (.DictComp kx vx [⟨tg, iter, ifs, 0⟩] scope p1) 0 (.ref it) (.ref D) (cvs X scope sB.heap.objs.size)) (compPost (model X.prog X.w) X.A X.xe sto Z (.ref D) sB.heap.objs.size) { sB with heap := pushCells (sB.heap.push { cls := .type "dict", data := .dict #[] }) scope.names }
  have noneB : ∀ b ∈ fp, HB b = none := fun b mb => (fB b mb).1.1
  rw [← eHB] at w0
  obtain ⟨ce, ece⟩ : ∃ ce, ce = cvs X scope sB.heap.objs.size := ⟨_, rfl⟩
  have locC : ce.locals = sB.heap.objs.size := by rw [ece]; rfl
  change PG (X.blk sB HB scope (cvs X scope sB.heap.objs.size) fp) tg g at eG
  change PTs (X.blk sB HB scope (cvs X scope sB.heap.objs.size) fp) ifs tt at eT
  change PE (X.blk sB HB scope (cvs X scope sB.heap.objs.size) fp) kx tk at eK
  change PE (X.blk sB HB scope (cvs X scope sB.heap.objs.size) fp) vx tv at eV
  change Inv (X.blk sB HB scope (cvs X scope sB.heap.objs.size) fp) _ _ _ _ at IC
  rw [← ece] at eG eT eK eV IC ⊢
  clear ece
  obtain ⟨sC, eC⟩ : ∃ sC : Shared, sC = { sB with heap := pushCells (sB.heap.push { cls := .type "dict", data := .dict #[] }) scope.names } := ⟨_, rfl⟩
  rw [← eC] at IC ⊢
  have tC : tn 0 sC.heap := TR.keep _ _ _ tB fun b _ o e => by rw [eC]; exact pushCells_keeps _ _ _ _ (Heap.get?_push_of_some _ e)
  have okAt : ∀ {τ : L2.St} {HX : Hp} {sX : Shared}, Inv (X.blk sB HB scope ce fp) [] τ HX sX → (∀ b ∈ fp, HX b = none) → ∀ b ∈ fp, FpOk (X.blk sB HB scope ce fp) [] HX b := fun {τ HX sX} IX nX b mb =>
    ⟨nX b mb, (IX.ok.exf b mb).1, IX.ok.exfs b mb, .inl mb, fun x c e => (IX.ok.exf b mb).2 x c e, fun p hp => absurd (show p ∈ ([] : List (Addr × Obj)) ++ [] from hp) (by simp)⟩
  have run : codeAny (model X.prog X.w) X.A (.compLoop (.DictComp kx vx [⟨tg, iter, ifs, 0⟩] scope p1) 0 (.ref it) (.ref D) ce) (compPost (model X.prog X.w) X.A X.xe sto Z (.ref D) sB.heap.objs.size) sC := by
    refine compLoop_anyD (fun m sX => ∃ i HX, Inv (X.blk sB HB scope ce fp) [] (wipe σ (own.map (·.2))) HX sX ∧ tn i sX.heap ∧ (∀ b ∈ fp, HX b = none) ∧ W i m HX) ?_ m0 ⟨0, HB, IC, tC, noneB, w0⟩
    rintro m s1 ⟨i, H1, I1, t1, n1, w1⟩
    rcases steps i m H1 w1 with ⟨halt, qD⟩ | ⟨more, Nx, nxt, body⟩
    · refine thnF (TR.done (X.blk sB HB scope ce fp) rfl rfl rfl calm i [] s1 _ H1 (fun _ _ => False) I1 (okAt I1 n1) t1 halt) fun r s2 ⟨er, I2⟩ => ?_
      subst er
      have I3 : Inv X pins σ H1 s2 := IB.call' (ch := fp) I2.os I2.base I2.hok I2.bare fun b mb => ⟨(fB b mb).1.2.2.2.1, (fB b mb).1.2.1, (fB b mb).1.2.2.2.2.1, (fB b mb).1.2.2.2.2.2⟩
      have freeC : H1 ce.locals = none := I2.free
      obtain ⟨mm, nsC, _⟩ := I2.loc
      change s2.heap.Ns ce.locals mm at nsC
      rw [locC] at nsC freeC
      exact last D _ s2 mm H1 I3 qD nsC (IB.fpOk (Nat.le_refl _) freeC)
    · refine thnF (TR.item (X.blk sB HB scope ce fp) rfl rfl rfl calm i [] s1 _ H1 (fun _ _ => False) I1 (okAt I1 n1) t1 more) fun r s2 ⟨u, er, h2⟩ => ?_
      subst er
      refine thnF h2 fun _ s3 ⟨x, H3, I3, r3, y3, t3, n3⟩ => ?_
      refine thnF (eG.run _ s3 _ H3 x u _ (I3.pinned (okAt I3 n3) (TR.obj _ _ t3)) r3 (body x H3 y3)) fun _ s4 ⟨τ, H4, I4, wq, q4⟩ => ?_
      refine thnF (eT.run _ s4 τ H4 _ I4 q4) fun b s5 ⟨H5, I5, q5⟩ => ?_
      have close : ∀ {sX : Shared} {HX : Hp}, Inv (X.blk sB HB scope ce fp) ([] ++ pinsAt fp s3.heap) τ HX sX → Nx HX → ∃ m', m' < m ∧ ∃ j HY, Inv (X.blk sB HB scope ce fp) [] (wipe σ (own.map (·.2))) HY sX ∧ tn j sX.heap ∧ (∀ b ∈ fp, HY b = none) ∧ W j m' HY := fun {sX HX} IX nX => by
        obtain ⟨m', lt, wX⟩ := nxt HX nX
        have held : ∀ b ∈ fp, ∀ o, s3.heap.get? b = some o → sX.heap.get? b = some o ∧ HX b = none := fun b mb o e =>
          ⟨(IX.pin (b, o) (List.mem_append_right _ (List.mem_append_right _ (mem_pinsAt mb e)))).1, (IX.pin (b, o) (List.mem_append_right _ (List.mem_append_right _ (mem_pinsAt mb e)))).2.1⟩
        refine ⟨m', lt, i + 1, HX, (IX.unpinned (pins := [])).weak (by rw [← wq, wipe_length]) (fun j v e => ?_), TR.keep _ _ _ t3 fun b mb o e => (held b mb o e).1, fun b mb => ?_, wX⟩
        · exact (wipe_some (by rw [wq]; exact e)).1
        · exact let ⟨o, e, _⟩ := TR.obj _ _ t3 b mb; (held b mb o e).2
      cases b with
      | false =>
        simp only [Bool.false_eq_true, if_false] at q5 ⊢
        exact close I5 q5
      | true =>
        simp only [if_true] at q5 ⊢
        refine thnF (eK.run _ s5 τ H5 _ I5 q5) fun _ s6 ⟨yk, H6, I6, r6, q6⟩ => ?_
        refine thnF (eV.run _ s6 τ H6 _ I6 q6) fun _ s7 ⟨yv, H7, I7, r7, kvs, k, a, ek, ha, hD7, lt7, nx⟩ => ?_
        subst ek
        cases r6
        exact dT_set (X := X.blk sB HB scope ce fp) hu I7 hD7 ha lt7 r7 fun s8 I8 => close I8 nx
  exact codeAny_compStart_dict run (TR.self X.A 0 _ _ _ tC run)
theorem pe_dcT {kx vx tg iter : Expr} {ifs : List Expr} {scope : Scope} {own : List (Str × Nat)} {p1 : Pos} {wi : TI} {g : TG} {tt : TT} {tk tv : TE}
    (calm : X.calm = true) (nd : X.N.Nodup) (hu : X.A.units < cLine) (pi : PI X tg iter wi) (bo : BlkOk X.N X.env.scope scope own)
    (pG : ∀ (s' : Shared) (H' : Hp) (c : Addr) (l : List (Str × Addr)) (fs : List Addr), PG (X.blk s' H' scope (compEnvC scope l c X.env) fs) tg g)
    (pT : ∀ (s' : Shared) (H' : Hp) (c : Addr) (l : List (Str × Addr)) (fs : List Addr), PTs (X.blk s' H' scope (compEnvC scope l c X.env) fs) ifs tt)
    (pK : ∀ (s' : Shared) (H' : Hp) (c : Addr) (l : List (Str × Addr)) (fs : List Addr), PE (X.blk s' H' scope (compEnvC scope l c X.env) fs) kx tk)
    (pV : ∀ (s' : Shared) (H' : Hp) (c : Addr) (l : List (Str × Addr)) (fs : List Addr), PE (X.blk s' H' scope (compEnvC scope l c X.env) fs) vx tv)
    (nf : ∀ y, foldedSetIterable iter X.env y = pure y := by intro _; rfl) : PE X (.DictComp kx vx [⟨tg, iter, ifs, 0⟩] scope p1) (tDcT wi g tt tk tv (own.map (·.2))) :=
  ⟨fun pins s σ H Q I rd => by
    rw [arm_eval_DictComp]
    refine dcT_run calm nd hu I pi bo pG pT pK pV nf rd fun D c s' m H' I' q ns f => ⟨m, ns, fun h2 sb => ?_⟩
    obtain ⟨g0, g1, g2, g3, g4, g5⟩ := f
    exact ⟨.ref D, H', I'.turned (t' := s'.toks) (fun b o nb e => (sb.2 b nb).trans e) g0 g1 g3 g4 g5, rfl, q⟩⟩
end
end FYR

set_option Elab.async false
set_option linter.all false
set_option maxRecDepth 100000
set_option maxHeartbeats 4000000
/-! enumerate of a tuple; dict.update with tuples as keys; a tuple taken no times or once -/
namespace FYR
open PySem PySem.Spec PyProof.Rows L2
/-! ### enumerate(tuple) -/
theorem enumNew1 {v : Value} {o : Obj} {G : Heap → Prop} (B : Begins v o G) :
    Meets (Builtin.«enumerate.__new__» ⟨[.type "enumerate", v], []⟩) (fun _ R s => G s.heap ∧
      R (.ok (.ret (.ref (s.heap.push o).objs.size))) { s with heap := (s.heap.push o).push { cls := .type "enumerate", data := .fields #[.none, .bool false, .ref s.heap.objs.size, rawInt 0, .none, .none] } }) :=
  .of_wp fun prog w A R s hh => by
    obtain ⟨hp, g, d, tk, os⟩ := s
    obtain ⟨hG, hR⟩ := hh
    have hsub := sub_enumerate
    have qi : ∀ {A1 : Around} {E1 : Value → Shared → Prop} {Z : Value → Shared → Prop}, Z (.ref hp.objs.size) ⟨hp.push o, g, d, tk, os⟩ → wpAny (model prog w) A1 (pyIter v) Z E1 ⟨hp, g, d, tk, os⟩ := fun z => B.iter prog w _ _ ⟨hp, g, d, tk, os⟩ _ hG z
    wp_walk using qi
    refine wpAny_stack_any fun stk => wpAny_pure ?_
    split
    · rename_i c0 _ _ _ _ _
      cases (c0 == Value.type "enumerate") <;> (wp_walk using qi; exact ⟨_, rfl, hR⟩)
    · wp_walk using qi
      exact ⟨_, rfl, hR⟩
theorem enumCall1 {prog : Program} {w : World} {A : Around} {E : Value → Shared → Prop} {s : Shared} {v : Value} {o : Obj} {G : Heap → Prop} {Q : Value → Shared → Prop} (B : Begins v o G) (hG : G s.heap)
    (h : ∀ h', IsEnum h' (s.heap.objs.size + 1) s.heap.objs.size 0 .none → h'.get? s.heap.objs.size = some o → (∀ b o, s.heap.get? b = some o → h'.get? b = some o) → Q (.ref (s.heap.objs.size + 1)) { s with heap := h' }) :
    wpAny (model prog w) A (call (.type "enumerate") [v]) Q E s := by
  refine callType_new F.called_enumerate (by decide) (F.typeCall_enumerate_1 _) (F.newCall_enumerate_1 _) (fun ob => F.args_object_init_2 ob _) F.entry_enumerate_new (enumNew1 B) ⟨hG, ?_⟩
  have one : (s.heap.push o).objs.size = s.heap.objs.size + 1 := Heap.size_push ..
  show _ ∧ _
  rw [one]
  have isE : IsEnum ((s.heap.push o).push { cls := .type "enumerate", data := .fields #[.none, .bool false, .ref s.heap.objs.size, rawInt 0, .none, .none] }) (s.heap.objs.size + 1) s.heap.objs.size 0 .none := by
    have z := Heap.get?_push_size (s.heap.push o) (o := { cls := .type "enumerate", data := .fields #[.none, .bool false, .ref s.heap.objs.size, rawInt 0, .none, .none] }) rfl
    rw [one] at z
    exact z
  exact ⟨⟨_, isE, rfl⟩, h _ isE (Heap.get?_push_of_some _ (Heap.get?_push_size _ B.free)) fun b q x => Heap.get?_push_of_some _ (Heap.get?_push_of_some _ x)⟩
def IteT (K : PySem.W.Frag) (a : Addr) : It :=
  ⟨fun i H => ∃ xs x, SqT K H a xs ∧ xs[i]? = some x,
    fun i H v H' => ∃ T x, v = .ref T ∧ H T = none ∧ H' = upd H T (.tup [.int (i : Nat), x]) ∧ ∀ xs, SqT K H a xs → xs[i]? = some x,
    fun i H => ∃ xs, SqT K H a xs ∧ xs.length = i⟩
theorem turn_enumT {P : Program} {w : World} {K : PySem.W.Frag} {elts : List Expr} {kk : Nat} {tpos : Pos} (a e it : Addr) :
    Turn P w K (.Tuple elts kk tpos) (IteT K a) [e, it] e (fun i h => (∃ old, IsEnum h e it ((i : Nat) : Int) old) ∧ h.IsTupleIter it a i ∧ e ≠ it ∧ a ≠ it ∧ a ≠ e) where
  mem := by simp
  obj := fun i h st c hc => by
    obtain ⟨⟨old, he⟩, ⟨o, ho, _, hd⟩, _⟩ := st
    have e' : c = e ∨ c = it := by simpa using hc
    rcases e' with q | q
    · rw [q]; exact ⟨_, he, fun v q => nomatch q⟩
    · rw [q]; exact ⟨o, ho, fun v q => by rw [hd] at q; cases q⟩
  keep := fun i h h' st k => by
    obtain ⟨⟨old, he⟩, hit, n1, n2, n3⟩ := st
    exact ⟨⟨old, k e (by simp) _ he⟩, hit.at fun o q => k it (by simp) o q, n1, n2, n3⟩
  item := by
    intro X hP hw hK hc i pins s σ H E I hf st hg
    subst hP hw hK
    obtain ⟨⟨old, he⟩, hit, n1, n2, n3⟩ := st
    obtain ⟨xs, x, hq, hx⟩ := hg
    obtain ⟨its, rv, tp, hz⟩ := I.tuple hq
    obtain ⟨u, hu, ru⟩ := rv.get hx
    have hi : i < its.toArray.size := by
      have := (List.getElem?_eq_some_iff.mp hu).1
      simpa using this
    have W := WalksT.enumerateD (prog := X.prog) (w := X.w) (A := X.A) (Draws.tuple (show X.A.in1.handled = none from I.ok.hd hc) it a n2 its.toArray) e n1 (by simp [n1, Ne.symm n3]) (by simp)
    refine W.item i s _ _ hi ⟨⟨old, he⟩, hit, tp⟩ fun T vals h' tk hp hT ht mid hk => ?_
    obtain ⟨tt, y, hy, rfl⟩ := hp
    have ey : y = u := by
      have e1 : its[i]? = some y := by simpa using hy
      rw [hu] at e1
      exact (Option.some.inj e1).symm
    subst ey
    refine ⟨_, rfl, W.go elts kk tpos i T { s with heap := h', toks := tk } _ _ mid fun h'' st'' hk2 => ?_⟩
    obtain ⟨oT, eT, cT, nT, dT⟩ := ht
    have hT2 : h''.get? T = some oT := hk2 _ _ (W.apart _ _ _ mid) eT
    have new : ObjOk X.prog X.w (upd H T (.tup [.int (i : Nat), x])) h'' T (.tup [.int (i : Nat), x]) :=
      ⟨by show 2 ≤ sizeLine; decide, [_, _], .cons ⟨_, rfl⟩ (.cons ru .nil), ⟨_, hT2, cT, nT, dT⟩⟩
    have I1 : Inv X pins σ (upd H T (.tup [.int (i : Nat), x])) { s with heap := h'', toks := tk } :=
      I.turnedNew (t' := tk) (ch := [e, it]) (fun c o hb q => hk2 c o hb (hk c o hb q)) hf hT new
    refine ⟨.ref T, _, I1, rfl, ⟨T, x, rfl, I.hok.fresh hT, rfl, fun ys hys => ?_⟩, ⟨st''.1, st''.2.1, n1, n2, n3⟩, fun b hb => ?_⟩
    · obtain ⟨its2, rv2, tp2, _⟩ := I.tuple hys
      obtain ⟨o1, g1, _, m1, d1⟩ := tp
      obtain ⟨o2, g2, _, m2, d2⟩ := tp2
      rw [g1] at g2
      cases g2
      rw [d1] at d2
      have e3 : its = its2 := by
        have := (Data.seq.inj d2).1
        simpa using this
      subst e3
      rw [rv.inj rv2] at hx
      exact hx
    · have hlt : b < s.heap.objs.size := by
        have e' : b = e ∨ b = it := by simpa using hb
        rcases e' with q | q
        · rw [q]; exact Heap.lt_size he
        · rw [q]; obtain ⟨o, ho, _⟩ := hit; exact Heap.lt_size ho
      rw [upd_ne (Nat.ne_of_lt (Nat.lt_of_lt_of_le hlt hT))]
      exact (hf b hb).1
  done := by
    intro X hP hw hK hc i pins s σ H E I hf st hg
    subst hP hw hK
    obtain ⟨⟨old, he⟩, hit, n1, n2, n3⟩ := st
    obtain ⟨xs, hq, hl⟩ := hg
    obtain ⟨its, rv, tp, hz⟩ := I.tuple hq
    have W := WalksT.enumerateD (prog := X.prog) (w := X.w) (A := X.A) (Draws.tuple (show X.A.in1.handled = none from I.ok.hd hc) it a n2 its.toArray) e n1 (by simp [n1, Ne.symm n3]) (by simp)
    have hn : its.toArray.size = i := by
      rw [List.size_toArray, ← rv.length]
      exact hl
    subst hn
    exact W.done s _ _ ⟨⟨old, he⟩, hit, tp⟩ fun h' tk hk => ⟨rfl, I.turnedL (t' := tk) (ch := [e, it]) (fun c o hb q => hk c o hb q) hf⟩
  self := fun A i s Q E st h => wpAny_pyIter_enum st.1.choose_spec h
def iEnumT (K : PySem.W.Frag) (ta : L2.TA) : TI := fun σ H R => ta σ H fun vs H1 => ∃ a xs, vs = [.ref a] ∧ SqT K H1 a xs ∧ R (IteT K a) H1
theorem pi_enumT {X : Cx} (K : PySem.W.Frag) (hK : X.K = K) {e : Expr} {ta : L2.TA} {p pos tpos : Pos} {elts : List Expr} {kk : Nat} (hg : Gl X "enumerate") (hm : X.mg "enumerate" = none) (ha : PA X [e] ta) (hs : starEach [e] X.env = [(false, eval e X.env)] := by rfl) :
    PI X (.Tuple elts kk tpos) (.Call (.Name "enumerate" p) [e] [] pos) (iEnumT K ta) := by
  subst hK
  refine ⟨fun pins s σ H R I h => ?_⟩
  refine Call_ (ld_blt I hg hm boot_enumerate (PyProof.Rows.callWith_type1 (thn (ha.run pos pins s σ H _ I h) fun us s1 ⟨vs, H1, I1, r1, q1⟩ => ?_) hs rfl))
  obtain ⟨a, xs, rfl, hq, q⟩ := q1
  obtain ⟨u, rfl, ru⟩ := r1.one
  cases ru
  obtain ⟨its, rv, tp, hz⟩ := I1.tuple hq
  have hlt : a < s1.heap.objs.size := by
    obtain ⟨o, ho, _⟩ := id tp
    exact Heap.lt_size ho
  refine enumCall1 (begins_tuple a its.toArray) tp fun h' he hit hk => wpAny_pyIter_enum he ?_
  have I2 : Inv X pins σ H1 { s1 with heap := h' } := I1.kept (t' := s1.toks) hk
  refine ⟨s1.heap.objs.size + 1, [s1.heap.objs.size + 1, s1.heap.objs.size], _, _, H1, rfl, I2, turn_enumT a (s1.heap.objs.size + 1) s1.heap.objs.size, ⟨⟨.none, he⟩, ⟨_, hit, rfl, rfl⟩, Nat.succ_ne_self _, Nat.ne_of_lt hlt, Nat.ne_of_lt (Nat.lt_succ_of_lt hlt)⟩, fun c hc => ?_, q⟩
  have hle : s1.heap.objs.size ≤ c := by
    have e' : c = s1.heap.objs.size + 1 ∨ c = s1.heap.objs.size := by simpa using hc
    rcases e' with z | z
    · rw [z]; exact Nat.le_add_right _ _
    · rw [z]; exact Nat.le_refl _
  exact I1.fpOk hle (I1.hok.fresh hle)
theorem walk_enumT {K : PySem.W.Frag} {a : Addr} {xs : List V} : Walk (IteT K a) xs.length (fun H => SqT K H a xs) (YPair (fun i => some (.int (i : Nat))) (fun i => xs[i]?)) :=
  ⟨fun i H hi h => ⟨xs, xs[i], h, List.getElem?_eq_getElem hi⟩, fun H h => ⟨xs, h, rfl⟩, fun i H v H' hi h ⟨T, x, ev, hT, eH, hx⟩ => ⟨T, _, x, ev, hT, eH, rfl, hx xs h⟩⟩
/-! ### d.update(d2), tuples as keys -/
theorem KT.putAll {H : Hp} : ∀ {more : List (List Key × V)} {ys : List (List Key × Addr × Value)}, KT H more ys → ∀ {kvs : List (List Key × V)} {xs : List (List Key × Addr × Value)}, KT H kvs xs → KT H (more.foldl (fun acc p => putK acc p.1 p.2) kvs) (storedAllH xs ys)
  | _, _, .nil, _, _, r => r
  | _, _, .cons (a := p) (b := q) hq t, _, _, r => by
    obtain ⟨e1, e2, e3⟩ := hq
    have z := r.put p.1 (b := q.2.1) (y := p.2) (u := q.2.2) e2 e3
    have y := KT.putAll t z
    show KT H (List.foldl _ (putK _ p.1 p.2) _) (storedAllH (storedH _ q.1 q.2.1 q.2.2) _)
    rw [← e1]
    exact y
theorem putAll_len : ∀ (more kvs : List (List Key × V)), (more.foldl (fun acc p => putK acc p.1 p.2) kvs).length ≤ kvs.length + more.length
  | [], kvs => Nat.le_refl _
  | p :: r, kvs => by
    have h1 := putAll_len r (putK kvs p.1 p.2)
    have h2 := length_putK kvs p.1 p.2
    simp only [List.foldl_cons, List.length_cons]
    omega
def rUpdT : V → List V → Hp → VK → Prop := fun x vs H Q => ∃ (d o : Addr) (kvs more : List (List Key × V)), x = .ref d ∧ vs = [.ref o] ∧ d ≠ o ∧ H d = some (.dT kvs) ∧ H o = some (.dT more) ∧ (kvs ≠ [] ∨ more.length ≤ 1) ∧ kvs.length + more.length ≤ 1000 ∧
  Q .non (upd H d (.dT (more.foldl (fun acc p => putK acc p.1 p.2) kvs)))
theorem mt_updT {X : Cx} (hu : X.A.units + 1 < cLine) : MtR X "dict.update" rUpdT := by
  intro pins s σ H x vs v us Q I rx rv h
  obtain ⟨d, o, kvs, more, rfl, rfl, hne, hd, ho, hap, hl, q⟩ := h
  cases rx
  obtain ⟨u, rfl, ru⟩ := rv.one
  cases ru
  obtain ⟨z1, nd, xs, rel, raw⟩ := dt_of I.hok hd
  obtain ⟨z2, no, ys, rel2, raw2⟩ := dt_of I.hok ho
  have l1 := Paired.length rel
  have l2 := Paired.length rel2
  have hsl := sizeLine_eq
  have ap : xs ≠ [] ∨ ((∀ y ∈ ys, s.TypeIs (.ref y.2.1) "tuple") ∧ (ys.map fun y => (tupleKind (mixKind X.prog X.w)).hash y.1).Nodup) := by
    rcases hap with h | h
    · exact .inl fun e => h (List.eq_nil_of_length_eq_zero (by rw [l1, e]; rfl))
    · refine .inr ?_
      cases rel2 with
      | nil => exact ⟨(fun y hy => nomatch hy), List.nodup_nil⟩
      | cons hq t =>
        cases t with
        | nil =>
          refine ⟨fun y hy => ?_, by simp⟩
          rw [List.mem_singleton.mp hy]
          obtain ⟨_, its, _, oo, g1, g2, _⟩ := I.hok _ _ hq.2.1
          exact ⟨oo, g1, g2⟩
        | cons _ _ => simp at h
  refine call_update_dictH (knd := tupleKind (mixKind X.prog X.w)) (tupleKind_room_in1 hu) hne no raw raw2 ap (by omega) fun h' raw' _ same => ?_
  obtain ⟨oo, es, ep, g1, g2, g3, g4, _, g5⟩ := raw'
  have pl := putAll_len more kvs
  have keepT : ∀ c zs, H c = some (.tup zs) → upd H d (.dT (more.foldl (fun acc p => putK acc p.1 p.2) kvs)) c = some (.tup zs) := fun c zs ec => by
    rw [upd_ne (fun y => by rw [y, hd] at ec; cases ec)]
    exact ec
  exact ⟨.non, _, d_write (ob := .dT (more.foldl (fun acc p => putK acc p.1 p.2) kvs)) I (by rw [hd]; trivial) same ⟨oo, g1⟩ ⟨by omega, nd, _, (KT.putAll rel2 rel).keeps keepT, oo, es, ep, g1, g2, g3, g4, g5⟩, rfl, q⟩
end FYR

set_option Elab.async false
set_option linter.all false
set_option maxRecDepth 100000
set_option maxHeartbeats 4000000
namespace FYR
open PySem PySem.Spec PyProof.Rows L2
theorem kt_get {H : Hp} {kvs : List (List Key × V)} {xs : List (List Key × Addr × Value)} (h : KT H kvs xs) {i : Nat} {y : List Key × Addr × Value} (hy : xs[i]? = some y) : ∃ p, kvs[i]? = some p ∧ p.1 = y.1 ∧ H y.2.1 = some (.tup (p.1.map kV)) ∧ RelV p.2 y.2.2 := by
  induction h generalizing i with
  | nil => simp at hy
  | cons r q ih =>
    cases i with
    | zero =>
      obtain rfl := Option.some.inj (by simpa using hy)
      exact ⟨_, rfl, r⟩
    | succ i => exact ih (by simpa using hy)
theorem kt_keys {H : Hp} {α : Type} {f : List Key → α} {kvs : List (List Key × V)} {xs : List (List Key × Addr × Value)} (h : KT H kvs xs) : (xs.map fun y => f y.1) = kvs.map fun p => f p.1 := by
  induction h with
  | nil => rfl
  | cons r q ih => rw [List.map_cons, List.map_cons, ih, r.1]
def rUpdT2 : V → List V → Hp → VK → Prop := fun x vs H Q => ∃ (d o : Addr) (kvs more : List (List Key × V)), x = .ref d ∧ vs = [.ref o] ∧ d ≠ o ∧ H d = some (.dT kvs) ∧ H o = some (.dT more) ∧ (kvs ≠ [] ∨ more.length ≤ 1 ∨ ∀ (P : Program) (w : World), (more.map fun p => (tupleKind (mixKind P w)).hash p.1).Nodup) ∧ kvs.length + more.length ≤ 1000 ∧
  Q .non (upd H d (.dT (more.foldl (fun acc p => putK acc p.1 p.2) kvs)))
theorem mt_updT2 {X : Cx} (hu : X.A.units + 1 < cLine) : MtR X "dict.update" rUpdT2 := by
  intro pins s σ H x vs v us Q I rx rv h
  obtain ⟨d, o, kvs, more, rfl, rfl, hne, hd, ho, hap, hl, q⟩ := h
  cases rx
  obtain ⟨u, rfl, ru⟩ := rv.one
  cases ru
  obtain ⟨z1, nd, xs, rel, raw⟩ := dt_of I.hok hd
  obtain ⟨z2, no, ys, rel2, raw2⟩ := dt_of I.hok ho
  have l1 := Paired.length rel
  have l2 := Paired.length rel2
  have hsl := sizeLine_eq
  have ap : xs ≠ [] ∨ ((∀ y ∈ ys, s.TypeIs (.ref y.2.1) "tuple") ∧ (ys.map fun y => (tupleKind (mixKind X.prog X.w)).hash y.1).Nodup) := by
    rcases hap with h | h | h
    · exact .inl fun e => h (List.eq_nil_of_length_eq_zero (by rw [l1, e]; rfl))
    · refine .inr ?_
      cases rel2 with
      | nil => exact ⟨(fun y hy => nomatch hy), List.nodup_nil⟩
      | cons hq t =>
        cases t with
        | nil =>
          refine ⟨fun y hy => ?_, by simp⟩
          rw [List.mem_singleton.mp hy]
          obtain ⟨_, its, _, oo, g1, g2, _⟩ := I.hok _ _ hq.2.1
          exact ⟨oo, g1, g2⟩
        | cons _ _ => simp at h
    · refine .inr ⟨fun y hy => ?_, ?_⟩
      · obtain ⟨i, hi⟩ := List.mem_iff_getElem?.mp hy
        obtain ⟨p, _, hq⟩ := kt_get rel2 hi
        obtain ⟨_, its, _, oo, g1, g2, _⟩ := I.hok _ _ hq.2.1
        exact ⟨oo, g1, g2⟩
      · rw [show (ys.map fun y => (tupleKind (mixKind X.prog X.w)).hash y.1) = more.map fun p => (tupleKind (mixKind X.prog X.w)).hash p.1 from kt_keys rel2]
        exact h _ _
  refine call_update_dictH (knd := tupleKind (mixKind X.prog X.w)) (tupleKind_room_in1 hu) hne no raw raw2 ap (by omega) fun h' raw' _ same => ?_
  obtain ⟨oo, es, ep, g1, g2, g3, g4, _, g5⟩ := raw'
  have pl := putAll_len more kvs
  have keepT : ∀ c zs, H c = some (.tup zs) → upd H d (.dT (more.foldl (fun acc p => putK acc p.1 p.2) kvs)) c = some (.tup zs) := fun c zs ec => by
    rw [upd_ne (fun y => by rw [y, hd] at ec; cases ec)]
    exact ec
  exact ⟨.non, _, d_write (ob := .dT (more.foldl (fun acc p => putK acc p.1 p.2) kvs)) I (by rw [hd]; trivial) same ⟨oo, g1⟩ ⟨by omega, nd, _, (KT.putAll rel2 rel).keeps keepT, oo, es, ep, g1, g2, g3, g4, g5⟩, rfl, q⟩
theorem two_hash (P : Program) (w : World) : decide ((tupleKind (mixKind P w)).hash [Sum.inl 0, Sum.inl 0] = (tupleKind (mixKind P w)).hash [Sum.inl 0, Sum.inl 1]) = false := by
  kernel_rfl
end FYR

set_option Elab.async false
set_option linter.all false
set_option maxRecDepth 100000
set_option maxHeartbeats 4000000
namespace FYR
open PySem PySem.Spec PyProof.Rows L2 PySem.W PySem.SeqAt
/-! xs > ys, lists of whole numbers -/
def lexI : List Int → List Int → Bool
  | [], [] => false
  | [], _ :: _ => true
  | _ :: _, [] => false
  | a :: as, b :: bs => if a = b then lexI as bs else decide (a < b)
theorem toks_int (ns : List Int) : keyToksAll (ns.map PyData.int) = ns.flatMap (fun n => [Sum.inl 1, Sum.inl n]) ++ [Sum.inl 0] := by
  induction ns with
  | nil => simp [keyToksAll]
  | cons n r ih => simp [keyToksAll, keyToks, ih]
theorem lex_int : ∀ ns ms : List Int, dataLt (.list (ns.map PyData.int)) (.list (ms.map PyData.int)) = lexI ns ms := by
  intro ns
  induction ns with
  | nil =>
    intro ms
    cases ms with
    | nil =>
      show PyProof.Rows.lexLt itemOrd [Sum.inl 0] [Sum.inl 0] = false
      exact lex_irrefl _
    | cons m r =>
      show PyProof.Rows.lexLt itemOrd [Sum.inl 0] (Sum.inl 1 :: _) = true
      rw [lex_diff (O := itemOrd) (by simp)]
      rfl
  | cons n r ih =>
    intro ms
    cases ms with
    | nil =>
      show PyProof.Rows.lexLt itemOrd (Sum.inl 1 :: _) [Sum.inl 0] = false
      rw [lex_diff (O := itemOrd) (by simp)]
      rfl
    | cons m s =>
      show PyProof.Rows.lexLt itemOrd (Sum.inl 1 :: Sum.inl n :: keyToksAll (r.map PyData.int)) (Sum.inl 1 :: Sum.inl m :: keyToksAll (s.map PyData.int)) = _
      rw [lex_self (O := itemOrd)]
      by_cases z : n = m
      · subst z
        rw [lex_self (O := itemOrd)]
        have := ih s
        unfold dataLt at this
        show _ = (if n = n then _ else _)
        rw [if_pos rfl]
        exact this
      · rw [lex_diff (O := itemOrd) (fun y => z (Sum.inl.inj y))]
        show decide (n < m) = (if n = m then _ else _)
        rw [if_neg z]
theorem alike_int : ∀ ns ms : List Int, alikeAll (ns.map PyData.int) (ms.map PyData.int) = true
  | [], _ => by simp [alikeAll]
  | _ :: _, [] => by simp [alikeAll]
  | a :: as, b :: bs => by simp [alikeAll, alike, alike_int as bs]
def rGtL (K : PySem.W.Frag) : R2 := fun x y H Q => ∃ ns ms : List Int, Dp K H x (.list (ns.map PyData.int)) ∧ Dp K H y (.list (ms.map PyData.int)) ∧ Q (.bl (lexI ms ns)) H
theorem op_gtL {X : Cx} (hu : X.A.units + 64 < cLine) : OpR X (compareOp .Gt) (rGtL X.K) := by
  intro pins s σ H x y v u Q I rx ry h
  obtain ⟨ns, ms, hd, he, q⟩ := h
  obtain ⟨as, r1⟩ := Dp.reads I _ x v hd rx
  obtain ⟨bs, r2⟩ := Dp.reads I _ y u he ry
  refine gt_data r1 r2 (alike_int ns ms) (by simp) ?_ ⟨.bl (lexI ms ns), H, I, ?_, q⟩
  · have dp : ∀ ls : List Int, PyData.depth (.list (ls.map PyData.int)) ≤ 2 := fun ls => by
      have : PyData.depthAll (ls.map PyData.int) ≤ 1 := by
        induction ls with
        | nil => simp [PyData.depthAll]
        | cons a r ih => simp [PyData.depthAll, PyData.depth] at *; omega
      simp [PyData.depth]
      omega
    have := dp ns
    omega
  · rw [lex_int]
    rfl
end FYR

set_option Elab.async false
set_option linter.all false
set_option maxRecDepth 100000
set_option maxHeartbeats 4000000
namespace FYR
open PySem PySem.Spec PyProof.Rows L2 RZ
section
variable {X : Cx} (K : PySem.W.Frag) (hK : X.K = K)
include hK
theorem kCatA : OpR X (binaryOp .Add) (rCatA K) := by subst hK; exact op_catA
theorem kGtL (hu : X.A.units + 64 < cLine) : OpR X (compareOp .Gt) (rGtL K) := by subst hK; exact op_gtL hu
theorem kSortI : CallR X (.builtin "sorted") (rSortedI K) := by subst hK; exact cr_sortedI
theorem kZipA {e e2 : Expr} {ta : TA} {p pos tpos : Pos} {elts : List Expr} {kk : Nat} (hg : Gl X "zip") (hm : X.mg "zip" = none) (ha : PA X [e, e2] ta)
    (hs : starEach [e, e2] X.env = (false, eval e X.env) :: starEach [e2] X.env := by rfl) (hpl : (backTo pos (starEach [e2] X.env)).any (·.1) = false := by rfl) :
    PI X (.Tuple elts kk tpos) (.Call (.Name "zip" p) [e, e2] [] pos) (iZipA K ta) := by subst hK; exact pi_zipA hg hm ha hs hpl
end
/-! d[key], d a written dict of the module -/
def tKd (K : PySem.W.Frag) (d : Addr) (td ty : TE) : TE := fun σ H Q => td σ H fun x H1 => ty σ H1 fun y H2 => ∃ (z : Str) (u0 : Value) (v0 : V), x = .ref d ∧ y = .str z ∧ PySem.W.nsIn K d z = some (some u0) ∧ RelV v0 u0 ∧ Q v0 H2
theorem pe_kd {X : Cx} {K : PySem.W.Frag} {w : World} {d : Addr} {es : Array DictEntry} {n : Nat} {o i : Expr} {pos : Pos} {td ty : TE} (hK : X.K = K) (hw : X.w = w) (D : KDict K w d es n) (ho : PE X o td) (hi : PE X i ty) (hs : NoSl i) : PE X (.Subscript o i pos) (tKd K d td ty) := by
  subst hK
  subst hw
  refine ⟨fun pins s σ H Q I h => ?_⟩
  refine subD_of PySem.F.slot_dict_getitem.lookup hs (thn (ho.run pins s σ H _ I h) fun u s1 ⟨x, H1, I1, rx, q1⟩ => thn (hi.run pins s1 σ H1 _ I1 q1) fun iv s2 ⟨y, H2, I2, ry, z, u0, v0, ex, ey, e, r, q2⟩ => ?_)
  subst ex
  subst ey
  obtain rfl : u = Value.ref d := rx
  exact ⟨kd_type D I2, op_item_kd D pins s2 σ H2 (.ref d) (.str z) _ _ _ I2 (show RelV (.ref d) (.ref d) from rfl) ry ⟨z, u0, v0, rfl, rfl, e, r, q2⟩⟩
end FYR

namespace FY
inductive W1 where
  | no | twice | half | change | count
  deriving DecidableEq
inductive Tm where
  | inn
  | one (w : W1) (t : Tm)
  | late (b : Bool) (t : Tm)
  | byy (a b c d : Bool) (t u : Tm)
  | keep (t u : Tm)
  | thn (t u : Tm)
def Tm.nodes : Tm → Nat
  | .inn => 1
  | .one _ t => t.nodes + 1
  | .late _ t => t.nodes + 1
  | .byy _ _ _ _ t u => t.nodes + u.nodes + 1
  | .keep t u => t.nodes + u.nodes + 1
  | .thn t u => t.nodes + u.nodes + 1
theorem Tm.nodes_pos (t : Tm) : 1 ≤ t.nodes := by cases t <;> simp [Tm.nodes]
def halfL : List Bool → List Bool
  | _ :: y :: r => y :: halfL r
  | _ => []
def chgL (l : Bool) : List Bool → List Bool
  | [] => []
  | x :: r => (x != l) :: chgL x r
def cntL (l : Bool) : List Bool → List Bool
  | [] => []
  | x :: r => (x != l) :: cntL (x != l) r
def dblL : List Bool → List Bool
  | [] => []
  | x :: r => x :: x :: dblL r
def byL (a b c d : Bool) : List Bool → List Bool → List Bool
  | x :: r, y :: s => (if x then (if y then d else c) else (if y then b else a)) :: byL a b c d r s
  | _, _ => []
def keepL : List Bool → List Bool → List Bool
  | x :: r, y :: s => if y then x :: keepL r s else keepL r s
  | _, _ => []
def lateL (b : Bool) (f : List Bool) : List Bool := (b :: f).take f.length
def oneL : W1 → List Bool → List Bool
  | .no, f => f.map (!·)
  | .twice, f => dblL f
  | .half, f => halfL f
  | .change, f => chgL false f
  | .count, f => cntL false f
def flow : Tm → List Bool → List Bool
  | .inn, s => s
  | .one w t, s => oneL w (flow t s)
  | .late b t, s => lateL b (flow t s)
  | .byy a b c d t u, s => byL a b c d (flow t s) (flow u s)
  | .keep t u, s => keepL (flow t s) (flow u s)
  | .thn t u, s => flow u (flow t s)
/-! lengths -/
theorem halfL_len : ∀ f : List Bool, (halfL f).length ≤ f.length
  | [] => by simp [halfL]
  | [_] => by simp [halfL]
  | _ :: y :: r => by have := halfL_len r; simp [halfL]; omega
theorem chgL_len : ∀ (f : List Bool) (l : Bool), (chgL l f).length = f.length
  | [], _ => rfl
  | x :: r, l => by simp [chgL, chgL_len r x]
theorem cntL_len : ∀ (f : List Bool) (l : Bool), (cntL l f).length = f.length
  | [], _ => rfl
  | x :: r, l => by simp [cntL, cntL_len r]
theorem dblL_len : ∀ f : List Bool, (dblL f).length = 2 * f.length
  | [] => rfl
  | x :: r => by simp [dblL, dblL_len r]; omega
theorem byL_len (a b c d : Bool) : ∀ f g : List Bool, (byL a b c d f g).length ≤ f.length
  | [], _ => by simp [byL]
  | _ :: _, [] => by simp [byL]
  | x :: r, y :: s => by have := byL_len a b c d r s; simp [byL]; omega
theorem keepL_len : ∀ f g : List Bool, (keepL f g).length ≤ f.length
  | [], _ => by simp [keepL]
  | _ :: _, [] => by simp [keepL]
  | x :: r, y :: s => by have := keepL_len r s; cases y <;> simp [keepL] <;> omega
theorem lateL_len (b : Bool) (f : List Bool) : (lateL b f).length = f.length := by simp [lateL]
theorem oneL_len (w : W1) (f : List Bool) : (oneL w f).length ≤ 2 * f.length := by
  cases w with
  | no => simp [oneL]; omega
  | twice => simp [oneL, dblL_len]
  | half => have := halfL_len f; simp [oneL]; omega
  | change => simp [oneL, chgL_len]; omega
  | count => simp [oneL, cntL_len]; omega
theorem flow_len : ∀ (t : Tm) (s : List Bool), (flow t s).length ≤ 2 ^ (t.nodes - 1) * s.length := by
  intro t
  induction t with
  | inn => intro s; simp [flow, Tm.nodes]
  | one w t ih =>
    intro s
    have h1 := oneL_len w (flow t s)
    have h2 := ih s
    have h3 := t.nodes_pos
    have e : 2 ^ (t.nodes + 1 - 1) = 2 * 2 ^ (t.nodes - 1) := by
      rw [show t.nodes + 1 - 1 = (t.nodes - 1) + 1 by omega, Nat.pow_succ]; omega
    simp only [flow, Tm.nodes, e, Nat.mul_assoc]
    omega
  | late b t ih =>
    intro s
    have h2 := ih s
    have h3 := t.nodes_pos
    have e : 2 ^ (t.nodes + 1 - 1) = 2 * 2 ^ (t.nodes - 1) := by
      rw [show t.nodes + 1 - 1 = (t.nodes - 1) + 1 by omega, Nat.pow_succ]; omega
    simp only [flow, Tm.nodes, lateL_len, e, Nat.mul_assoc]
    omega
  | byy a b c d t u ih1 ih2 =>
    intro s
    have h1 := byL_len a b c d (flow t s) (flow u s)
    have h2 := ih1 s
    have h3 := t.nodes_pos
    have e : 2 ^ (t.nodes - 1) ≤ 2 ^ (t.nodes + u.nodes + 1 - 1) := Nat.pow_le_pow_right (by decide) (by omega)
    have e2 := Nat.mul_le_mul_right s.length e
    simp only [flow, Tm.nodes]
    omega
  | keep t u ih1 ih2 =>
    intro s
    have h1 := keepL_len (flow t s) (flow u s)
    have h2 := ih1 s
    have e : 2 ^ (t.nodes - 1) ≤ 2 ^ (t.nodes + u.nodes + 1 - 1) := Nat.pow_le_pow_right (by decide) (by omega)
    have e2 := Nat.mul_le_mul_right s.length e
    simp only [flow, Tm.nodes]
    omega
  | thn t u ih1 ih2 =>
    intro s
    have h1 := ih1 s
    have h2 := ih2 (flow t s)
    have h3 := t.nodes_pos
    have h4 := u.nodes_pos
    have e : 2 ^ (u.nodes - 1) * 2 ^ (t.nodes - 1) ≤ 2 ^ (t.nodes + u.nodes + 1 - 1) := by
      rw [← Nat.pow_add]; exact Nat.pow_le_pow_right (by decide) (by omega)
    have e1 := Nat.mul_le_mul_left (2 ^ (u.nodes - 1)) h1
    have e2 := Nat.mul_le_mul_right s.length e
    rw [← Nat.mul_assoc] at e1
    simp only [flow, Tm.nodes]
    omega
/-! beginnings -/
theorem halfL_pre : ∀ f g : List Bool, halfL f <+: halfL (f ++ g)
  | [], g => by simp [halfL]
  | [x], g => by simp [halfL]
  | x :: y :: r, g => by
    have := halfL_pre r g
    simpa [halfL, List.prefix_cons_inj] using this
theorem chgL_pre : ∀ (f g : List Bool) (l : Bool), chgL l f <+: chgL l (f ++ g)
  | [], g, l => by simp [chgL]
  | x :: r, g, l => by have := chgL_pre r g x; simpa [chgL, List.prefix_cons_inj] using this
theorem cntL_pre : ∀ (f g : List Bool) (l : Bool), cntL l f <+: cntL l (f ++ g)
  | [], g, l => by simp [cntL]
  | x :: r, g, l => by have := cntL_pre r g (x != l); simpa [cntL, List.prefix_cons_inj] using this
theorem dblL_pre : ∀ (f g : List Bool), dblL f <+: dblL (f ++ g)
  | [], g => by simp [dblL]
  | x :: r, g => by have := dblL_pre r g; simpa [dblL, List.prefix_cons_inj] using this
theorem byL_pre (a b c d : Bool) : ∀ (f g f' g' : List Bool), byL a b c d f g <+: byL a b c d (f ++ f') (g ++ g')
  | [], g, f', g' => by simp [byL]
  | x :: r, [], f', g' => by simp [byL]
  | x :: r, y :: s, f', g' => by have := byL_pre a b c d r s f' g'; simpa [byL, List.prefix_cons_inj] using this
theorem keepL_pre : ∀ (f g f' g' : List Bool), keepL f g <+: keepL (f ++ f') (g ++ g')
  | [], g, f', g' => by simp [keepL]
  | x :: r, [], f', g' => by simp [keepL]
  | x :: r, y :: s, f', g' => by
    have := keepL_pre r s f' g'
    cases y <;> simpa [keepL, List.prefix_cons_inj] using this
theorem lateL_pre (b : Bool) (f g : List Bool) : lateL b f <+: lateL b (f ++ g) := by
  unfold lateL
  have h : (b :: f).take f.length = ((b :: (f ++ g)).take (f ++ g).length).take f.length := by
    rw [List.take_take, Nat.min_eq_left (by simp)]
    cases f with
    | nil => rfl
    | cons x r =>
      simp only [List.length_cons, List.take_succ_cons, List.cons_append]
      congr 1
      rw [show (x :: (r ++ g)) = (x :: r) ++ g from rfl, List.take_append_of_le_length (by simp)]
  rw [h]
  exact List.take_prefix _ _
theorem oneL_pre (w : W1) (f g : List Bool) : oneL w f <+: oneL w (f ++ g) := by
  cases w with
  | no => simp [oneL]
  | twice => exact dblL_pre f g
  | half => exact halfL_pre f g
  | change => exact chgL_pre f g false
  | count => exact cntL_pre f g false
theorem flow_pre : ∀ (t : Tm) (s g : List Bool), flow t s <+: flow t (s ++ g) := by
  intro t
  induction t with
  | inn => intro s g; simp [flow]
  | one w t ih =>
    intro s g
    obtain ⟨r, hr⟩ := ih s g
    simp only [flow, ← hr]
    exact oneL_pre w _ _
  | late b t ih =>
    intro s g
    obtain ⟨r, hr⟩ := ih s g
    simp only [flow, ← hr]
    exact lateL_pre b _ _
  | byy a b c d t u ih1 ih2 =>
    intro s g
    obtain ⟨r, hr⟩ := ih1 s g
    obtain ⟨q, hq⟩ := ih2 s g
    simp only [flow, ← hr, ← hq]
    exact byL_pre a b c d _ _ _ _
  | keep t u ih1 ih2 =>
    intro s g
    obtain ⟨r, hr⟩ := ih1 s g
    obtain ⟨q, hq⟩ := ih2 s g
    simp only [flow, ← hr, ← hq]
    exact keepL_pre _ _ _ _
  | thn t u ih1 ih2 =>
    intro s g
    obtain ⟨r, hr⟩ := ih1 s g
    simp only [flow, ← hr]
    exact ih2 _ _
theorem flow_nil : ∀ t : Tm, flow t [] = [] := by
  intro t
  have h := flow_len t []
  simpa using h
end FY

set_option Elab.async false
set_option linter.all false
set_option maxRecDepth 100000
set_option maxHeartbeats 4000000
namespace FY
open PySem L2 FYR
def cd (b : Bool) : Nat := if b then 49 else 48
def sgn (b : Bool) : Str := ⟨#[cd b]⟩
def tx (bs : List Bool) : Str := ⟨(bs.map cd).toArray⟩
theorem cd_inj {a b : Bool} (h : cd a = cd b) : a = b := by cases a <;> cases b <;> first | rfl | (exact absurd h (by decide))
theorem tx_inj {a b : List Bool} (h : tx a = tx b) : a = b := by
  have h1 : a.map cd = b.map cd := by
    have := congrArg Str.cps h
    simpa [tx] using this
  exact (List.map_inj_right (fun x y => cd_inj)).mp h1
theorem tx_eq (a b : List Bool) : decide (V.str (tx a) = V.str (tx b)) = decide (a = b) := by
  by_cases h : a = b
  · subst h; simp
  · rw [decide_eq_false h, decide_eq_false]
    intro q
    exact h (tx_inj (V.str.inj q))
theorem sgn_tx (b : Bool) : sgn b = tx [b] := rfl
theorem s0 : ("0" : Str) = sgn false := by decide +kernel
theorem s1 : ("1" : Str) = sgn true := by decide +kernel
theorem se : ("" : Str) = tx [] := by decide +kernel
theorem tx_size (bs : List Bool) : (tx bs).cps.size = bs.length := by simp [tx]
theorem tx_len (bs : List Bool) : (tx bs).length = bs.length := tx_size bs
theorem tx_get (bs : List Bool) (i : Nat) : (tx bs).cps[i]? = (bs[i]?).map cd := by simp [tx]
theorem tx_app (a b : List Bool) : tx a ++ tx b = tx (a ++ b) := by
  show (⟨(tx a).cps ++ (tx b).cps⟩ : Str) = _
  simp [tx]
theorem str_ext {a b : Str} (h : a.cps.toList = b.cps.toList) : a = b := by
  obtain ⟨x⟩ := a
  obtain ⟨y⟩ := b
  exact congrArg Str.mk (Array.toList_inj.mp h)
theorem tx_toList (bs : List Bool) : (tx bs).cps.toList = bs.map cd := by simp [tx]
theorem join_def (sep : Str) (ys : List Str) : Txt.join sep ys = Str.join sep ys := by
  have h := PyProof.Rows.join_closes (sep := sep) (sep' := sep) (ys := ys) rfl
  simpa using h
theorem join_tx : ∀ (ys : List (List Bool)), Txt.join (tx []) (ys.map tx) = tx ys.flatten := by
  intro ys
  rw [join_def]
  induction ys with
  | nil => rfl
  | cons y r ih =>
    cases r with
    | nil =>
      show tx y = tx [y].flatten
      simp
    | cons z r =>
      show tx y ++ tx [] ++ Str.join (tx []) ((z :: r).map tx) = _
      rw [ih, tx_app, tx_app]
      simp
theorem flat_sgn (bs : List Bool) : (bs.map fun b => [b]).flatten = bs := by
  induction bs with
  | nil => rfl
  | cons b r ih => simp [ih]
theorem join_sgn (bs : List Bool) : Txt.join (tx []) (bs.map sgn) = tx bs := by
  have h := join_tx (bs.map fun b => [b])
  rw [flat_sgn, List.map_map] at h
  exact h
theorem cut_tx (bs : List Bool) (lo hi : Option Int) : cutS (tx bs) lo hi = tx ((bs.drop (HT.sIx bs.length 0 lo)).take (HT.sIx bs.length bs.length hi - HT.sIx bs.length 0 lo)) := by
  apply str_ext
  rw [tx_toList]
  unfold cutS
  rw [tx_len, tx_toList]
  simp [List.map_take, List.map_drop]
theorem cut_to (bs : List Bool) (k : Nat) : cutS (tx bs) none (some (k : Int)) = tx (bs.take k) := by
  rw [cut_tx, HT.sIx_none, HT.sIx_nat]
  congr 1
  simp only [List.drop_zero, Nat.sub_zero]
  rw [← List.take_take, List.take_of_length_le (Nat.le_refl _)]
theorem step_tx (bs : List Bool) : stepS (tx bs) (some 1) none 2 = tx (halfL bs) := by
  have e1 : Builtin.Str.strSliceIndices (some 1) none 2 bs.length = (List.range (bs.length / 2)).map fun k => 2 * k + 1 := by
    unfold Builtin.Str.strSliceIndices sliceRange
    simp only [show ((2 : Int) > 0) = True from by simp, if_true]
    have hc : max 0 (min (if (1 : Int) < 0 then 1 + (bs.length : Int) else 1) (bs.length : Int)) = min 1 (bs.length : Int) := by
      rw [if_neg (by decide)]; omega
    rw [hc]
    by_cases h : min (1 : Int) bs.length < bs.length
    · rw [if_pos h]
      have e2 : (((bs.length : Int) - min 1 (bs.length : Int) + 2 - 1) / 2).toNat = bs.length / 2 := by omega
      rw [e2]
      refine List.map_congr_left fun k _ => ?_
      omega
    · rw [if_neg h]
      have e2 : bs.length / 2 = 0 := by omega
      simp [e2]
  unfold stepS
  rw [if_neg (by simp), tx_len, e1]
  apply str_ext
  rw [tx_toList]
  show List.filterMap _ _ = _
  rw [List.filterMap_map]
  clear e1
  have key : ∀ (n : Nat) (l : List Bool), l.length ≤ n → List.filterMap ((fun x => (tx l).cps[x]?) ∘ fun k => 2 * k + 1) (List.range (l.length / 2)) = (halfL l).map cd := by
    intro n
    induction n with
    | zero =>
      intro l hl
      cases l with
      | nil => rfl
      | cons _ _ => simp at hl
    | succ n ih =>
      intro l hl
      match l, hl with
      | [], _ => rfl
      | [x], _ => simp [halfL]
      | x :: y :: r, hl =>
        have e : (x :: y :: r).length / 2 = r.length / 2 + 1 := by simp only [List.length_cons]; omega
        rw [e, List.range_succ_eq_map, List.filterMap_cons]
        have e0 : ((fun i => (tx (x :: y :: r)).cps[i]?) ∘ fun k => 2 * k + 1) 0 = some (cd y) := by
          show (tx (x :: y :: r)).cps[1]? = _
          rw [tx_get]; rfl
        rw [e0]
        show cd y :: _ = cd y :: _
        congr 1
        rw [List.filterMap_map]
        have hr := ih r (by simp only [List.length_cons] at hl; omega)
        rw [← hr]
        congr 1
        funext k
        show (tx (x :: y :: r)).cps[2 * (k + 1) + 1]? = (tx r).cps[2 * k + 1]?
        rw [tx_get, tx_get, show 2 * (k + 1) + 1 = (2 * k + 1) + 1 + 1 by omega]
        rfl
  exact key bs.length bs (Nat.le_refl _)
theorem starts_tx (a b : List Bool) : Txt.startswith (tx a) (tx b) = decide (b <+: a) := by
  unfold Txt.startswith Builtin.Str.subAt
  rw [tx_len, tx_len, Nat.zero_add]
  by_cases h : b <+: a
  · obtain ⟨r, rfl⟩ := h
    rw [decide_eq_true (List.prefix_append b r)]
    simp [tx]
  · rw [decide_eq_false h]
    by_cases hl : b.length ≤ a.length
    · have hn : ((tx a).cps.extract 0 b.length == (tx b).cps) = false := by
        rw [beq_eq_false_iff_ne]
        intro q
        apply h
        have q2 := congrArg Array.toList q
        have q3 : (a.take b.length).map cd = b.map cd := by simpa [tx, List.map_take] using q2
        have q4 := (List.map_inj_right (fun x y => cd_inj)).mp q3
        rw [← q4]
        exact List.take_prefix _ _
      rw [hn]; simp
    · simp [hl]
theorem int_sgn (b : Bool) : PySem.intText? (sgn b) = some (if b then 1 else 0) := by
  cases b <;> decide +kernel
theorem str_bit (b : Bool) : ((toString (if b then (1 : Int) else 0) : String) : Str) = sgn b := by
  cases b <;> decide +kernel
end FY

set_option Elab.async false
set_option linter.all false
set_option maxRecDepth 100000
set_option maxHeartbeats 4000000
namespace FY
open PySem L2 FYR
def W1.s : W1 → Str
  | .no => "not" | .twice => "twice" | .half => "half" | .change => "change" | .count => "count"
def Tm.word : Tm → Str
  | .inn => "in" | .one w _ => w.s | .late _ _ => "late" | .byy _ _ _ _ _ _ => "by" | .keep _ _ => "keep" | .thn _ _ => "then"
/-- what else stands in the tuple ahead of the parts -/
def Tm.extra : Tm → List Str
  | .late b _ => [sgn b] | .byy a b c d _ _ => [tx [a, b, c, d]] | _ => []
def Tm.parts : Tm → List Tm
  | .inn => [] | .one _ t => [t] | .late _ t => [t] | .byy _ _ _ _ t u => [t, u] | .keep t u => [t, u] | .thn t u => [t, u]
def Tm.isIn : Tm → Bool | .inn => true | _ => false
def Tm.data : Tm → PyData
  | .inn => .str "in"
  | .one w t => .tuple [.str w.s, t.data]
  | .late b t => .tuple [.str "late", .str (sgn b), t.data]
  | .byy a b c d t u => .tuple [.str "by", .str (tx [a, b, c, d]), t.data, u.data]
  | .keep t u => .tuple [.str "keep", t.data, u.data]
  | .thn t u => .tuple [.str "then", t.data, u.data]
/-- the value v is the term t -/
def TA (H : Hp) : V → Tm → Prop
  | v, .inn => v = .str "in"
  | v, .one w t => ∃ a x, v = .ref a ∧ H a = some (.tup [.str w.s, x]) ∧ TA H x t
  | v, .late b t => ∃ a x, v = .ref a ∧ H a = some (.tup [.str "late", .str (sgn b), x]) ∧ TA H x t
  | v, .byy a b c d t u => ∃ p x y, v = .ref p ∧ H p = some (.tup [.str "by", .str (tx [a, b, c, d]), x, y]) ∧ TA H x t ∧ TA H y u
  | v, .keep t u => ∃ p x y, v = .ref p ∧ H p = some (.tup [.str "keep", x, y]) ∧ TA H x t ∧ TA H y u
  | v, .thn t u => ∃ p x y, v = .ref p ∧ H p = some (.tup [.str "then", x, y]) ∧ TA H x t ∧ TA H y u
/-- the tuples stay -/
def Tups (H H' : Hp) : Prop := ∀ a xs, H a = some (.tup xs) → H' a = some (.tup xs)
theorem Tups.of {H H' : Hp} (h : Same H H') : Tups H H' := fun a xs e => h a _ e
theorem Tups.refl (H : Hp) : Tups H H := fun _ _ e => e
theorem Tups.trans {H H1 H2 : Hp} (a : Tups H H1) (b : Tups H1 H2) : Tups H H2 := fun x xs e => b x xs (a x xs e)
theorem TA.keep {H H' : Hp} (k : Tups H H') : ∀ {t : Tm} {v : V}, TA H v t → TA H' v t := by
  intro t
  induction t with
  | inn => intro v h; exact h
  | one w t ih => rintro v ⟨a, x, e, h, r⟩; exact ⟨a, x, e, k _ _ h, ih r⟩
  | late b t ih => rintro v ⟨a, x, e, h, r⟩; exact ⟨a, x, e, k _ _ h, ih r⟩
  | byy a b c d t u i1 i2 => rintro v ⟨p, x, y, e, h, r, q⟩; exact ⟨p, x, y, e, k _ _ h, i1 r, i2 q⟩
  | keep t u i1 i2 => rintro v ⟨p, x, y, e, h, r, q⟩; exact ⟨p, x, y, e, k _ _ h, i1 r, i2 q⟩
  | thn t u i1 i2 => rintro v ⟨p, x, y, e, h, r, q⟩; exact ⟨p, x, y, e, k _ _ h, i1 r, i2 q⟩
/-- a node that is no "in", whichever -/
theorem TA.node {H : Hp} {t : Tm} {v : V} (h : TA H v t) (hn : t.isIn = false) : ∃ a ws, v = .ref a ∧ H a = some (.tup (.str t.word :: (t.extra.map V.str ++ ws))) ∧ Paired (TA H) ws t.parts := by
  cases t with
  | inn => cases hn
  | one w t => obtain ⟨a, x, e, h, r⟩ := h; exact ⟨a, [x], e, h, .cons r .nil⟩
  | late b t => obtain ⟨a, x, e, h, r⟩ := h; exact ⟨a, [x], e, h, .cons r .nil⟩
  | byy a b c d t u => obtain ⟨p, x, y, e, h, r, q⟩ := h; exact ⟨p, [x, y], e, h, .cons r (.cons q .nil)⟩
  | keep t u => obtain ⟨p, x, y, e, h, r, q⟩ := h; exact ⟨p, [x, y], e, h, .cons r (.cons q .nil)⟩
  | thn t u => obtain ⟨p, x, y, e, h, r, q⟩ := h; exact ⟨p, [x, y], e, h, .cons r (.cons q .nil)⟩
theorem TA.dp {K : PySem.W.Frag} {H : Hp} : ∀ {t : Tm} {v : V}, TA H v t → Dp K H v t.data := by
  intro t
  induction t with
  | inn => rintro v rfl; exact .str _
  | one w t ih => rintro v ⟨a, x, rfl, h, r⟩; exact .tup (SqT.of h) (.cons (.str _) (.cons (ih r) .nil))
  | late b t ih => rintro v ⟨a, x, rfl, h, r⟩; exact .tup (SqT.of h) (.cons (.str _) (.cons (.str _) (.cons (ih r) .nil)))
  | byy a b c d t u i1 i2 => rintro v ⟨p, x, y, rfl, h, r, q⟩; exact .tup (SqT.of h) (.cons (.str _) (.cons (.str _) (.cons (i1 r) (.cons (i2 q) .nil))))
  | keep t u i1 i2 => rintro v ⟨p, x, y, rfl, h, r, q⟩; exact .tup (SqT.of h) (.cons (.str _) (.cons (i1 r) (.cons (i2 q) .nil)))
  | thn t u i1 i2 => rintro v ⟨p, x, y, rfl, h, r, q⟩; exact .tup (SqT.of h) (.cons (.str _) (.cons (i1 r) (.cons (i2 q) .nil)))
theorem sgn_ok (b : Bool) : PyData.strOk (sgn b) = true := by cases b <;> decide +kernel
theorem tab_ok (a b c d : Bool) : PyData.strOk (tx [a, b, c, d]) = true := by cases a <;> cases b <;> cases c <;> cases d <;> decide +kernel
theorem w1_ok (w : W1) : PyData.strOk w.s = true := by cases w <;> decide +kernel
theorem lay_tm (t : Tm) : t.data.canLay0 = true := by
  induction t with
  | inn => decide +kernel
  | one w t ih => simp [Tm.data, PyData.canLay0, PyData.canLayAll0, ih, w1_ok]
  | late b t ih => simp [Tm.data, PyData.canLay0, PyData.canLayAll0, ih, sgn_ok]; decide +kernel
  | byy a b c d t u i1 i2 => simp [Tm.data, PyData.canLay0, PyData.canLayAll0, i1, i2, tab_ok]; decide +kernel
  | keep t u i1 i2 => simp [Tm.data, PyData.canLay0, PyData.canLayAll0, i1, i2]; decide +kernel
  | thn t u i1 i2 => simp [Tm.data, PyData.canLay0, PyData.canLayAll0, i1, i2]; decide +kernel
theorem depth_tm (t : Tm) : t.data.depth ≤ t.nodes := by
  induction t with
  | inn => simp [Tm.data, PyData.depth]
  | one w t ih => simp [Tm.data, PyData.depth, PyData.depthAll, Tm.nodes]; omega
  | late b t ih => simp [Tm.data, PyData.depth, PyData.depthAll, Tm.nodes]; omega
  | byy a b c d t u i1 i2 => simp [Tm.data, PyData.depth, PyData.depthAll, Tm.nodes]; omega
  | keep t u i1 i2 => simp [Tm.data, PyData.depth, PyData.depthAll, Tm.nodes]; omega
  | thn t u i1 i2 => simp [Tm.data, PyData.depth, PyData.depthAll, Tm.nodes]; omega
theorem shp_tm {t : Tm} (h : t.nodes ≤ 40) : SeqAt.shaped t.data = true := by
  unfold SeqAt.shaped
  have := depth_tm t
  simp [lay_tm]
  omega
theorem eqv_in (t : Tm) : PyData.eqv t.data (.str "in") = t.isIn := by
  cases t <;> simp [Tm.data, PyData.eqv, Tm.isIn]
theorem shp_in : SeqAt.shaped (.str "in") = true := by decide +kernel
theorem same_new {H : Hp} {p : Addr} (h : H p = none) (o : HO) : Same H (upd H p o) := fun b u q => by rw [upd_ne (ne_of_none q h)]; exact q
theorem small5 {n : Nat} (h : n ≤ 100000) : n ≤ sizeLine := Nat.le_trans h (by decide)
theorem paired_keep {H H' : Hp} (k : Tups H H') : ∀ {ws : List V} {ts : List Tm}, Paired (TA H) ws ts → Paired (TA H') ws ts
  | _, _, .nil => .nil
  | _, _, .cons r q => .cons (r.keep k) (paired_keep k q)
theorem show_tm (t : Tm) : t.data.showable = true ∧ t.data.hasDict = false := by
  induction t with
  | inn => exact ⟨rfl, rfl⟩
  | one w t ih => simp [Tm.data, PyData.showable, PyData.showableAll, PyData.hasDict, PyData.hasDictAll, ih]
  | late b t ih => simp [Tm.data, PyData.showable, PyData.showableAll, PyData.hasDict, PyData.hasDictAll, ih]
  | byy a b c d t u i1 i2 => simp [Tm.data, PyData.showable, PyData.showableAll, PyData.hasDict, PyData.hasDictAll, i1, i2]
  | keep t u i1 i2 => simp [Tm.data, PyData.showable, PyData.showableAll, PyData.hasDict, PyData.hasDictAll, i1, i2]
  | thn t u i1 i2 => simp [Tm.data, PyData.showable, PyData.showableAll, PyData.hasDict, PyData.hasDictAll, i1, i2]
def op1 : Tm → List Bool → List Bool
  | .one w _, f => oneL w f
  | .late b _, f => lateL b f
  | _, f => f
def op2 : Tm → List Bool → List Bool → List Bool
  | .byy a b c d _ _, f, g => byL a b c d f g
  | .keep _ _, f, g => keepL f g
  | _, f, _ => f
end FY

set_option Elab.async false
set_option linter.all false
set_option maxRecDepth 100000
set_option maxHeartbeats 4000000
namespace FY
open PySem L2 FYR
def put : Tm → Tm → Tm
  | .inn, o => o
  | .one w t, o => .one w (put t o)
  | .late b t, o => .late b (put t o)
  | .byy a b c d t u, o => .byy a b c d (put t o) (put u o)
  | .keep t u, o => .keep (put t o) (put u o)
  | .thn t u, o => .thn (put t o) u
def plain : Tm → Tm
  | .inn => .inn
  | .one w t => .one w (plain t)
  | .late b t => .late b (plain t)
  | .byy a b c d t u => .byy a b c d (plain t) (plain u)
  | .keep t u => .keep (plain t) (plain u)
  | .thn t u => put (plain u) (plain t)
def Tm.dep : Tm → Nat
  | .inn => 1
  | .one _ t => t.dep + 1
  | .late _ t => t.dep + 1
  | .byy _ _ _ _ t u => max t.dep u.dep + 1
  | .keep t u => max t.dep u.dep + 1
  | .thn t u => max t.dep u.dep + 1
def noThn : Tm → Bool
  | .inn => true
  | .one _ t => noThn t
  | .late _ t => noThn t
  | .byy _ _ _ _ t u => noThn t && noThn u
  | .keep t u => noThn t && noThn u
  | .thn _ _ => false
theorem flow_put : ∀ (t o : Tm) (s : List Bool), flow (put t o) s = flow t (flow o s) := by
  intro t
  induction t with
  | inn => intro o s; rfl
  | one w t ih => intro o s; simp [put, flow, ih]
  | late b t ih => intro o s; simp [put, flow, ih]
  | byy a b c d t u i1 i2 => intro o s; simp [put, flow, i1, i2]
  | keep t u i1 i2 => intro o s; simp [put, flow, i1, i2]
  | thn t u i1 i2 => intro o s; simp [put, flow, i1]
theorem flow_plain : ∀ (t : Tm) (s : List Bool), flow (plain t) s = flow t s := by
  intro t
  induction t with
  | inn => intro s; rfl
  | one w t ih => intro s; simp [plain, flow, ih]
  | late b t ih => intro s; simp [plain, flow, ih]
  | byy a b c d t u i1 i2 => intro s; simp [plain, flow, i1, i2]
  | keep t u i1 i2 => intro s; simp [plain, flow, i1, i2]
  | thn t u i1 i2 => intro s; simp [plain, flow, flow_put, i1, i2]
theorem put_inn : ∀ t : Tm, put t .inn = t := by
  intro t
  induction t <;> simp_all [put]
theorem noThn_put : ∀ t o : Tm, noThn t = true → noThn o = true → noThn (put t o) = true := by
  intro t
  induction t <;> simp_all [put, noThn]
theorem noThn_plain : ∀ t : Tm, noThn (plain t) = true := by
  intro t
  induction t with
  | thn t u i1 i2 => exact noThn_put _ _ i2 i1
  | _ => simp_all [plain, noThn]
theorem plain_of : ∀ t : Tm, noThn t = true → plain t = t := by
  intro t
  induction t <;> simp_all [plain, noThn]
theorem plain_plain (t : Tm) : plain (plain t) = plain t := plain_of _ (noThn_plain t)
theorem Tm.dep_le (t : Tm) : t.dep ≤ t.nodes := by
  induction t with
  | inn => simp [Tm.dep, Tm.nodes]
  | one w t ih => simp [Tm.dep, Tm.nodes]; omega
  | late b t ih => simp [Tm.dep, Tm.nodes]; omega
  | byy a b c d t u i1 i2 => simp [Tm.dep, Tm.nodes]; omega
  | keep t u i1 i2 => simp [Tm.dep, Tm.nodes]; omega
  | thn t u i1 i2 => simp [Tm.dep, Tm.nodes]; omega
theorem Tm.dep_pos (t : Tm) : 1 ≤ t.dep := by cases t <;> simp [Tm.dep]
theorem dep_put (o : Tm) : ∀ t : Tm, (put t o).dep ≤ t.dep + o.dep := by
  intro t
  induction t with
  | inn => simp [put, Tm.dep]
  | one w t ih => simp [put, Tm.dep]; omega
  | late b t ih => simp [put, Tm.dep]; omega
  | byy a b c d t u i1 i2 => simp [put, Tm.dep]; omega
  | keep t u i1 i2 => simp [put, Tm.dep]; omega
  | thn t u i1 i2 => simp [put, Tm.dep]; omega
theorem dep_plain : ∀ t : Tm, (plain t).dep ≤ t.nodes := by
  intro t
  induction t with
  | inn => simp [plain, Tm.dep, Tm.nodes]
  | one w t ih => simp [plain, Tm.dep, Tm.nodes]; omega
  | late b t ih => simp [plain, Tm.dep, Tm.nodes]; omega
  | byy a b c d t u i1 i2 => simp [plain, Tm.dep, Tm.nodes]; omega
  | keep t u i1 i2 => simp [plain, Tm.dep, Tm.nodes]; omega
  | thn t u i1 i2 => have := dep_put (plain t) (plain u); simp [plain, Tm.nodes]; omega
theorem depth_dep (t : Tm) : t.data.depth ≤ t.dep := by
  induction t with
  | inn => simp [Tm.data, PyData.depth]
  | one w t ih => simp [Tm.data, PyData.depth, PyData.depthAll, Tm.dep]; omega
  | late b t ih => simp [Tm.data, PyData.depth, PyData.depthAll, Tm.dep]; omega
  | byy a b c d t u i1 i2 => simp [Tm.data, PyData.depth, PyData.depthAll, Tm.dep]; omega
  | keep t u i1 i2 => simp [Tm.data, PyData.depth, PyData.depthAll, Tm.dep]; omega
  | thn t u i1 i2 => simp [Tm.data, PyData.depth, PyData.depthAll, Tm.dep]; omega
theorem shp_dep {t : Tm} (h : t.dep ≤ 60) : SeqAt.shaped t.data = true := by
  unfold SeqAt.shaped
  have := depth_dep t
  simp [lay_tm]
  omega
theorem parts_dep {t u : Tm} (h : u ∈ t.parts) : u.dep + 1 ≤ t.dep := by
  cases t <;> simp [Tm.parts, Tm.dep] at h ⊢
  · subst h; omega
  · subst h; omega
  · rcases h with rfl | rfl <;> omega
  · rcases h with rfl | rfl <;> omega
  · rcases h with rfl | rfl <;> omega
theorem parts_few (t : Tm) : t.parts.length ≤ 2 := by cases t <;> simp [Tm.parts]
end FY

set_option Elab.async false
set_option linter.all false
set_option maxRecDepth 100000
set_option maxHeartbeats 4000000
namespace FY
open PySem L2 FYR
def top (i : Nat) : Stmt := PySem.Challenge.pw_flowyard_k15_whole_one_end_by_all_states.main.body.getD i (.Pass ⟨0, 0, 0, 0⟩)
theorem bt_len : bootBuiltins "len" = some (.builtin "len") := by decide +kernel
theorem bt_isinstance : bootBuiltins "isinstance" = some (.builtin "isinstance") := by decide +kernel
theorem bt_all : bootBuiltins "all" = some (.builtin "all") := by decide +kernel
theorem bt_sum : bootBuiltins "sum" = some (.builtin "sum") := by decide +kernel
theorem bt_abs : bootBuiltins "abs" = some (.builtin "abs") := by decide +kernel
theorem bt_max : bootBuiltins "max" = some (.builtin "max") := by decide +kernel
theorem bt_min : bootBuiltins "min" = some (.builtin "min") := by decide +kernel
theorem bt_divmod : bootBuiltins "divmod" = some (.builtin "divmod") := by decide +kernel
theorem bt_repr : bootBuiltins "repr" = some (.builtin "repr") := by decide +kernel
theorem bt_int : bootBuiltins "int" = some (.type "int") := by decide +kernel
theorem bt_str : bootBuiltins "str" = some (.type "str") := by decide +kernel
theorem bt_tuple : bootBuiltins "tuple" = some (.type "tuple") := by decide +kernel
theorem bt_bool : bootBuiltins "bool" = some (.type "bool") := by decide +kernel
theorem bt_sorted : bootBuiltins "sorted" = some (.builtin "sorted") := by decide +kernel
theorem bt_dict : bootBuiltins "dict" = some (.type "dict") := by decide +kernel
theorem bt_list : bootBuiltins "list" = some (.type "list") := by decide +kernel
structure Txt (K : PySem.W.Frag) (mg : Str → Option Value) (aS a1 a2 : Addr) : Prop where
  b_len : mg "len" = none
  b_isinstance : mg "isinstance" = none
  b_all : mg "all" = none
  b_sum : mg "sum" = none
  b_abs : mg "abs" = none
  b_max : mg "max" = none
  b_min : mg "min" = none
  b_divmod : mg "divmod" = none
  b_repr : mg "repr" = none
  b_int : mg "int" = none
  b_str : mg "str" = none
  b_tuple : mg "tuple" = none
  b_list : mg "list" = none
  b_zip : mg "zip" = none
  b_range : mg "range" = none
  b_dict : mg "dict" = none
  b_bool : mg "bool" = none
  b_enumerate : mg "enumerate" = none
  b_sorted : mg "sorted" = none
  g_SIGNS : ∃ u, mg "SIGNS" = some u ∧ RelV (.ref aS) u
  k_SIGNS : ∀ H, SqT K H aS [.str "0", .str "1"]
  g_MOST_STANDINGS : ∃ u, mg "MOST_STANDINGS" = some u ∧ RelV (.int 4) u
  g_MOST_GIVEN : ∃ u, mg "MOST_GIVEN" = some u ∧ RelV (.int 2) u
  g_MOST_TICKS : ∃ u, mg "MOST_TICKS" = some u ∧ RelV (.int 9) u
  g_MOST_CONTENT : ∃ u, mg "MOST_CONTENT" = some u ∧ RelV (.int 3) u
  g_MOST_SIZE : ∃ u, mg "MOST_SIZE" = some u ∧ RelV (.int 3) u
  g_MOST_STREAM : ∃ u, mg "MOST_STREAM" = some u ∧ RelV (.int 1000) u
/-! promises -/
def spIsSign : Sp := fun vs H Q _ => ∃ b, vs = [.str (sgn b)] ∧ Q (.bl true) H
def spIsText : Sp := fun vs H Q _ => ∃ bs, vs = [.str (tx bs)] ∧ bs.length ≤ 100000 ∧ ∀ H', Same H H' → Q (.bl true) H'
def spIsTextOf : Sp := fun vs H Q _ => ∃ (bs : List Bool) (n : Int), vs = [.str (tx bs), .int n] ∧ bs.length ≤ 100000 ∧ ∀ H', Same H H' → Q (.bl (decide ((bs.length : Int) ≤ n))) H'
def spWantStream : Sp := fun vs H Q _ => ∃ bs, vs = [.str (tx bs)] ∧ bs.length ≤ 1000 ∧ ∀ H', Same H H' → Q .non H'
def spPartsOf : Sp := fun vs H Q _ => ∃ v t, vs = [v] ∧ TA H v t ∧ t.dep ≤ 60 ∧ ∀ H' p ws, Same H H' → H' p = some (.tup ws) → Paired (TA H') ws t.parts → Q (.ref p) H'
def spHasShape : Sp := fun vs H Q _ => ∃ v t, vs = [v] ∧ TA H v t ∧ t.isIn = false ∧ ∀ H', Same H H' → Q (.bl true) H'
def spIsTerm : Sp := fun vs H Q _ => ∃ v t, vs = [v] ∧ TA H v t ∧ t.nodes ≤ 40 ∧ ∀ H', Same H H' → Q (.bl (decide (t.nodes ≤ 9))) H'
def spWantTerm : Sp := fun vs H Q _ => ∃ v t, vs = [v] ∧ TA H v t ∧ t.nodes ≤ 9 ∧ ∀ H', Same H H' → Q .non H'
theorem ty_str {K : PySem.W.Frag} {H : Hp} (x : Str) : TyX K H (.str x) (.type "str") := .base (.str x)
theorem ty_tup {K : PySem.W.Frag} {H : Hp} {a : Addr} {xs : List V} (h : H a = some (.tup xs)) : TyX K H (.ref a) (.type "tuple") := .base (.tup h)
theorem kss {K : PySem.W.Frag} : PySem.W.kitOne K (.type "str") (.type "str") = some true := kit_ty (by decide +kernel)
theorem kts {K : PySem.W.Frag} : PySem.W.kitOne K (.type "tuple") (.type "str") = some false := kit_ty (by decide +kernel)
theorem ktt {K : PySem.W.Frag} : PySem.W.kitOne K (.type "tuple") (.type "tuple") = some true := kit_ty (by decide +kernel)
theorem kst {K : PySem.W.Frag} : PySem.W.kitOne K (.type "str") (.type "tuple") = some false := kit_ty (by decide +kernel)
theorem tyI {σ : St} {H : Hp} {A B : Hp → Prop} (h : A H) : tYes σ H (fun b H3 => if b = true then A H3 else B H3) := by
  show if true = true then A H else B H
  rw [if_pos rfl]
  exact h
theorem o1w (w : W1) : (if false = true then !inV (.str w.s) [.str "not", .str "twice", .str "half", .str "change", .str "count"] else inV (.str w.s) [.str "not", .str "twice", .str "half", .str "change", .str "count"]) = true := by cases w <;> decide +kernel
theorem o1l : (if false = true then !inV (.str "late") [.str "not", .str "twice", .str "half", .str "change", .str "count"] else inV (.str "late") [.str "not", .str "twice", .str "half", .str "change", .str "count"]) = false := by decide +kernel
theorem o1b : (if false = true then !inV (.str "by") [.str "not", .str "twice", .str "half", .str "change", .str "count"] else inV (.str "by") [.str "not", .str "twice", .str "half", .str "change", .str "count"]) = false := by decide +kernel
theorem o1k : (if false = true then !inV (.str "keep") [.str "not", .str "twice", .str "half", .str "change", .str "count"] else inV (.str "keep") [.str "not", .str "twice", .str "half", .str "change", .str "count"]) = false := by decide +kernel
theorem o1t : (if false = true then !inV (.str "then") [.str "not", .str "twice", .str "half", .str "change", .str "count"] else inV (.str "then") [.str "not", .str "twice", .str "half", .str "change", .str "count"]) = false := by decide +kernel
theorem o2l : (if false = true then !inV (.str "late") [.str "keep", .str "then"] else inV (.str "late") [.str "keep", .str "then"]) = false := by decide +kernel
theorem o2b : (if false = true then !inV (.str "by") [.str "keep", .str "then"] else inV (.str "by") [.str "keep", .str "then"]) = false := by decide +kernel
theorem o2k : (if false = true then !inV (.str "keep") [.str "keep", .str "then"] else inV (.str "keep") [.str "keep", .str "then"]) = true := by decide +kernel
theorem o2t : (if false = true then !inV (.str "then") [.str "keep", .str "then"] else inV (.str "then") [.str "keep", .str "then"]) = true := by decide +kernel
theorem iteTd {c : Bool} {A B : Prop} (e : c = true) (h : A) : if c = true then A else B := by
  subst e
  exact iteT h
theorem iteFd {c : Bool} {A B : Prop} (e : c = false) (h : B) : if c = true then A else B := by
  subst e
  exact iteF h
theorem nw1 {p : Prop} : ¬ ((1 : Nat) = 0 ∧ p) := fun z => absurd z.1 (by decide)
theorem nw2 {p : Prop} : ¬ ((2 : Nat) = 0 ∧ p) := fun z => absurd z.1 (by decide)
theorem in_signs (b : Bool) : inV (.str (sgn b)) [.str "0", .str "1"] = true := by cases b <;> decide +kernel
section
variable {P : Program} {w : World} {K : PySem.W.Frag} {mg : Str → Option Value} {base : Heap} {aS a1 a2 : Addr} {f : Addr} {fd : FuncData}
abbrev s_is_text : Stmt := top 6
abbrev N_is_text : List Str := ["value", "sign"]
theorem sc_is_text : FnScope N_is_text ["value"] (defScope s_is_text) := ⟨rfl, rfl, rfl, by decide +kernel, rfl, by decide +kernel, by decide +kernel⟩
theorem ok_is_text (F : Fun K "is_text" "is_text" s_is_text f fd) (T : Txt K mg aS a1 a2) : FnOk P w K mg base CX0 1 f fd ["value"] spIsText := by
  refine F.ok sc_is_text (fun vs H Q E h => ?_) (fun cdv A outer s H vs Q E hr h => ?_)
  · obtain ⟨b, rfl, _⟩ := h
    rfl
  obtain ⟨bs, rfl, hl, q⟩ := h
  refine ⟨_, (pss_one (ps_ret (pe_and (pe_callB (kIsi K rfl) rfl T.b_isinstance bt_isinstance (pa_cons (pv 0) (pa_cons (pTy rfl T.b_str bt_str) pa_nil))) (pe_one (pe_callB (kAll K rfl rfl) rfl T.b_all bt_all (pa_cons (pe_lc (own := [("sign", 1)]) rfl sc_is_text.nd (pi_str (pv 0)) (blkOk_by (N := N_is_text) (sc := defScope s_is_text) (by decide +kernel)) (fun _ _ _ _ _ => (pg_name (i := 1) sc_is_text.nd rfl (Or.inl rfl))) (fun _ _ _ _ _ => pts_nil) (fun _ _ _ _ _ => (pe_cmpR (kIn K rfl) (pv 1) (C8.pe_gc rfl T.g_SIGNS) rfl))) pa_nil)))))), ?_⟩
  refine ⟨_, rfl, _, _, _, _, _, rfl, .ty _, ty_str _, kss, _, rfl, iteT ?_⟩
  refine ⟨_, rfl, _, rfl, fun D hD => lc_it walk_str (fun i H' => Same H H' ∧ H' D = some (.lst (List.replicate i (.bl true)))) ⟨same_new hD _, upd_same⟩ (fun _ _ _ _ => trivial) ?_ ?_⟩
  · rintro i x H1 H2 hi ⟨sm, hd⟩ ⟨rfl, c, hc, rfl⟩
    rw [tx_get] at hc
    obtain ⟨b, hb, rfl⟩ := Option.map_eq_some_iff.mp hc
    refine ⟨rfl, tyI ?_⟩
    refine ⟨_, rfl, _, _, rfl, .inr (T.k_SIGNS _), rfl, rfl, ?_⟩
    rw [if_neg Bool.false_ne_true]
    rw [show inV (V.str { cps := #[cd b] }) [V.str (Str.ofString "0"), V.str (Str.ofString "1")] = true from in_signs b]
    have hi' : i < bs.length := by rw [tx_size] at hi; exact hi
    refine ⟨_, hd, ?_, fun b o e => ?_, ?_⟩
    · rw [List.length_replicate]
      exact Nat.lt_of_lt_of_le hi' (small5 hl)
    · rw [upd_ne (ne_of_none e hD)]
      exact sm _ _ e
    · rw [upd_same, List.replicate_succ']
  · rintro H1 ⟨sm, hd⟩
    refine ⟨_, List.replicate (tx bs).cps.size true, rfl, SqL.of (by rw [hd, List.map_replicate]), ?_⟩
    have e : (List.replicate (tx bs).cps.size true).all id = true := by simp
    rw [e]
    exact q _ sm
abbrev s_is_text_of : Stmt := top 8
abbrev N_is_text_of : List Str := ["value", "most"]
theorem sc_is_text_of : FnScope N_is_text_of ["value", "most"] (defScope s_is_text_of) := ⟨rfl, rfl, rfl, by decide +kernel, rfl, by decide +kernel, by decide +kernel⟩
theorem ok_is_text_of (F : Fun K "is_text_of" "is_text_of" s_is_text_of f fd) (T : Txt K mg aS a1 a2) (c_is_text : C8.Cal P w K mg base 1 "is_text" spIsText []) : FnOk P w K mg base CX0 2 f fd ["value", "most"] spIsTextOf := by
  refine F.ok sc_is_text_of (fun vs H Q E h => ?_) (fun cdv A outer s H vs Q E hr h => ?_)
  · obtain ⟨b, n, rfl, _⟩ := h
    rfl
  obtain ⟨bs, n, rfl, hl, q⟩ := h
  refine ⟨_, (pss_one (ps_ret (pe_and (C8.pe_c c_is_text hr (by decide) rfl (pa_cons (pv 0) pa_nil)) (pe_one (pe_cmpR op_le (pe_callB call_len_str rfl T.b_len bt_len (pa_cons (pv 0) pa_nil)) (pv 1) (nomark _)))))), ?_⟩
  refine ⟨_, rfl, bs, rfl, hl, fun H1 sm => ⟨_, rfl, iteT ?_⟩⟩
  refine ⟨_, rfl, _, rfl, by rw [tx_len]; exact small5 hl, _, rfl, _, _, rfl, rfl, ?_⟩
  rw [tx_len]
  exact q _ sm
abbrev s_want_stream : Stmt := top 47
abbrev N_want_stream : List Str := ["stream"]
theorem sc_want_stream : FnScope N_want_stream ["stream"] (defScope s_want_stream) := ⟨rfl, rfl, rfl, by decide +kernel, rfl, by decide +kernel, by decide +kernel⟩
theorem ok_want_stream (F : Fun K "want_stream" "want_stream" s_want_stream f fd) (T : Txt K mg aS a1 a2) (c_is_text_of : C8.Cal P w K mg base 2 "is_text_of" spIsTextOf []) : FnOk P w K mg base CX0 3 f fd ["stream"] spWantStream := by
  refine F.ok sc_want_stream (fun vs H Q E h => ?_) (fun cdv A outer s H vs Q E hr h => ?_)
  · obtain ⟨b, rfl, _⟩ := h
    rfl
  obtain ⟨bs, rfl, hl, q⟩ := h
  refine ⟨_, (pss_one (ps_if (pt_not (pt_val (C8.pe_c c_is_text_of hr (by decide) rfl (pa_cons (pv 0) (pa_cons (C8.pe_gc rfl T.g_MOST_STREAM) pa_nil)))))
        (pss_one ps_never)
        pss_nil)), ?_⟩
  refine ⟨_, rfl, bs, _, rfl, by omega, fun H1 sm => ⟨_, rfl, ?_⟩⟩
  rw [decide_eq_true (by omega)]
  exact iteF (q _ sm)
end
end FY


set_option Elab.async false
set_option linter.all false
set_option pp.maxSteps 4000
set_option maxRecDepth 100000
set_option maxHeartbeats 4000000
namespace FY
open PySem L2 FYR
def sumN : List Tm → Nat
  | [] => 0
  | t :: r => t.nodes + sumN r
theorem sumN_app : ∀ a b : List Tm, sumN (a ++ b) = sumN a + sumN b
  | [], b => by simp [sumN]
  | t :: a, b => by simp [sumN, sumN_app a b]; omega
theorem sumN_parts (t : Tm) : sumN t.parts + 1 = t.nodes := by cases t <;> simp [Tm.parts, sumN, Tm.nodes] <;> omega
theorem sumN_len : ∀ ts : List Tm, ts.length ≤ sumN ts
  | [] => by simp
  | t :: r => by have := sumN_len r; have := t.nodes_pos; simp [sumN]; omega
theorem sumN_mem : ∀ (ts : List Tm) (t : Tm), t ∈ ts → t.nodes ≤ sumN ts
  | [], _, h => by simp at h
  | u :: r, t, h => by
    rcases List.mem_cons.mp h with rfl | h
    · simp [sumN]
    · have := sumN_mem r t h; simp [sumN]; omega
theorem dpAll {K : PySem.W.Frag} {H : Hp} : ∀ {ws : List V} {ts : List Tm}, Paired (TA H) ws ts → DpAll K H ws (ts.map Tm.data)
  | _, _, .nil => .nil
  | _, _, .cons r q => .cons r.dp (dpAll q)
theorem layAll : ∀ ts : List Tm, PyData.canLayAll0 (ts.map Tm.data) = true
  | [] => rfl
  | t :: r => by simp [PyData.canLayAll0, lay_tm, layAll r]
theorem depAll : ∀ ts : List Tm, PyData.depthAll (ts.map Tm.data) ≤ sumN ts
  | [] => by simp [PyData.depthAll]
  | t :: r => by have := depAll r; have := depth_tm t; simp [PyData.depthAll, sumN]; omega
theorem shpAll {ts : List Tm} (h : sumN ts ≤ 40) : SeqAt.shaped (.list (ts.map Tm.data)) = true := by
  unfold SeqAt.shaped
  have := depAll ts
  simp [PyData.canLay0, layAll, PyData.depth]
  omega
theorem shpNil : SeqAt.shaped (.list []) = true := by decide +kernel
theorem eqvNil (ts : List Tm) : PyData.eqv (.list (ts.map Tm.data)) (.list []) = ts.isEmpty := by
  cases ts <;> simp [PyData.eqv, PyData.eqvAll]
theorem paired_len {α β : Type} {R : α → β → Prop} : ∀ {a : List α} {b : List β}, Paired R a b → a.length = b.length
  | _, _, .nil => rfl
  | _, _, .cons _ q => by simp [paired_len q]
theorem paired_app {α β : Type} {R : α → β → Prop} : ∀ {a : List α} {b : List β} {c : List α} {d : List β}, Paired R a b → Paired R c d → Paired R (a ++ c) (b ++ d)
  | _, _, _, _, .nil, q => q
  | _, _, _, _, .cons r p, q => .cons r (paired_app p q)
/-- the last one -/
theorem paired_last {α β : Type} {R : α → β → Prop} {a : List α} {b : List β} (h : Paired R a b) (hb : b ≠ []) : ∃ a0 x b0 y, a = a0 ++ [x] ∧ b = b0 ++ [y] ∧ Paired R a0 b0 ∧ R x y := by
  induction h with
  | nil => exact absurd rfl hb
  | @cons x y as bs r q ih =>
    cases q with
    | nil => exact ⟨[], x, [], y, rfl, rfl, .nil, r⟩
    | cons r2 q2 =>
      obtain ⟨a0, x', b0, y', e1, e2, p, rr⟩ := ih (by simp)
      exact ⟨x :: a0, x', y :: b0, y', by rw [e1]; rfl, by rw [e2]; rfl, .cons r p, rr⟩
theorem _root_.L2.Same.trans' {H H1 H2 : Hp} (a : Same H H1) (b : Same H1 H2) : Same H H2 := fun x o e => b x o (a x o e)
theorem same_at {H H1 : Hp} {L : Addr} {o : HO} (a : Same H H1) (h : H L = none) : Same H (upd H1 L o) := fun b u e => by
  rw [upd_ne (ne_of_none e h)]
  exact a b u e
theorem tups_at {H1 : Hp} {L : Addr} {xs : List V} {o : HO} (h : H1 L = some (.lst xs)) : Tups H1 (upd H1 L o) := fun b ys e => by
  have : b ≠ L := fun q => by rw [q, h] at e; cases e
  rw [upd_ne this]
  exact e
def intAt (σ : St) (i : Nat) : Nat := match σ[i]? with
  | some (some (V.int m)) => m.toNat
  | _ => 0
theorem sz1 : 1 ≤ sizeLine := by decide
section
variable {P : Program} {w : World} {K : PySem.W.Frag} {mg : Str → Option Value} {base : Heap} {aS a1 a2 : Addr} {f : Addr} {fd : FuncData}
end
/-! ## flows' parts -/
def spHalf : Sp := fun vs H Q _ => ∃ bs, vs = [.str (tx bs)] ∧ bs.length ≤ 100000 ∧ Q (.str (tx (halfL bs))) H
def spChanges : Sp := fun vs H Q _ => ∃ bs, vs = [.str (tx bs)] ∧ bs.length ≤ 100000 ∧ ∀ H', Same H H' → Q (.str (tx (chgL false bs))) H'
def spCounts : Sp := fun vs H Q _ => ∃ bs, vs = [.str (tx bs)] ∧ bs.length ≤ 100000 ∧ ∀ H', Same H H' → Q (.str (tx (cntL false bs))) H'
def spTurned : Sp := fun vs H Q _ => ∃ b, vs = [.str (sgn b)] ∧ Q (.str (sgn (!b))) H
section
variable {P : Program} {w : World} {K : PySem.W.Frag} {mg : Str → Option Value} {base : Heap} {aS a1 a2 : Addr} {f : Addr} {fd : FuncData}
end
end FY


set_option Elab.async false
set_option linter.all false
set_option maxRecDepth 100000
set_option maxHeartbeats 4000000
namespace FY
open PySem L2 FYR
abbrev vs (b : Bool) : V := .str (sgn b)
def b2i (b : Bool) : Int := if b then 1 else 0
theorem sg_ne (x y : Bool) : (!decide (V.str ⟨#[cd x]⟩ = V.str ⟨#[cd y]⟩)) = (x != y) := by cases x <;> cases y <;> decide +kernel
theorem sg_eq (x y : Bool) : decide (V.str ⟨#[cd x]⟩ = V.str ⟨#[cd y]⟩) = (x == y) := by cases x <;> cases y <;> decide +kernel
theorem take_one {α β : Type} (f : α → β) {l : List α} {i : Nat} {x : α} (h : l[i]? = some x) : (l.take i).map f ++ [f x] = (l.take (i + 1)).map f := by
  rw [List.take_succ, h]
  simp
theorem chg_get : ∀ (bs : List Bool) (l : Bool) (i : Nat) (x y : Bool), bs[i]? = some x → (l :: bs)[i]? = some y → (chgL l bs)[i]? = some (x != y)
  | [], l, i, x, y, h, _ => by simp at h
  | b :: r, l, 0, x, y, h, h2 => by simp at h h2; subst h; subst h2; simp [chgL]
  | b :: r, l, i + 1, x, y, h, h2 => by
    simp only [List.getElem?_cons_succ] at h h2
    simp only [chgL, List.getElem?_cons_succ]
    exact chg_get r b i x y h h2
theorem cnt_get : ∀ (bs : List Bool) (l : Bool) (i : Nat) (x y : Bool), bs[i]? = some x → (l :: cntL l bs)[i]? = some y → (cntL l bs)[i]? = some (x != y)
  | [], l, i, x, y, h, _ => by simp at h
  | b :: r, l, 0, x, y, h, h2 => by simp at h h2; subst h; subst h2; simp [cntL]
  | b :: r, l, i + 1, x, y, h, h2 => by
    simp only [List.getElem?_cons_succ] at h
    simp only [cntL, List.getElem?_cons_succ] at h2 ⊢
    exact cnt_get r (b != l) i x y h h2
theorem jsum : ∀ bs : List Bool, ((bs.map sgn).map (·.length)).sum = bs.length
  | [] => rfl
  | b :: r => by
    have := jsum r
    simp only [List.map_cons, List.sum_cons, List.length_cons, this]
    have : (sgn b).length = 1 := rfl
    omega
theorem joinEnd {K : PySem.W.Frag} {H : Hp} {D : Addr} {bs : List Bool} {R : VK} (h : H D = some (.lst (bs.map vs))) (hl : bs.length ≤ 100000) (q : R (.str (tx bs)) H) : rJoin K (.str "") [.ref D] H R := by
  refine ⟨"", D, bs.map sgn, rfl, rfl, .inl (SqL.of (by rw [h, List.map_map]; rfl)), ?_, ?_⟩
  · rw [jsum, show ("" : Str).length = 0 from rfl]
    omega
  · rw [se, join_sgn]
    exact q
theorem tx_char {bs : List Bool} {i c : Nat} (h : (tx bs).cps[i]? = some c) : ∃ b, bs[i]? = some b ∧ c = cd b := by
  rw [tx_get] at h
  obtain ⟨b, hb, rfl⟩ := Option.map_eq_some_iff.mp h
  exact ⟨b, hb, rfl⟩
theorem sl640 (c : Nat) : ({ cps := #[c] } : Str).length ≤ 640 := by
  show 1 ≤ 640
  decide
theorem lt_len {α : Type} {l : List α} {i : Nat} {x : α} (h : l[i]? = some x) : i < l.length := (List.getElem?_eq_some_iff.mp h).1
theorem take_len_le {α β : Type} (f : α → β) (l : List α) (i : Nat) (hl : i < 100000) : ((l.take i).map f).length < sizeLine := by
  rw [List.length_map, List.length_take]
  exact Nat.lt_of_lt_of_le (show min i l.length < 100000 by omega) (by decide)
section
variable {P : Program} {w : World} {K : PySem.W.Frag} {mg : Str → Option Value} {base : Heap} {aS a1 a2 : Addr} {f : Addr} {fd : FuncData}
end
theorem flat_dbl : ∀ bs : List Bool, (bs.map fun b => [b, b]).flatten = dblL bs
  | [] => rfl
  | b :: r => by
    have h := flat_dbl r
    simp only [List.map_cons, List.flatten_cons, dblL, ← h]
    rfl
theorem jsumL : ∀ ys : List (List Bool), ((ys.map tx).map (·.length)).sum = ys.flatten.length
  | [] => rfl
  | y :: r => by
    have := jsumL r
    simp only [List.map_cons, List.sum_cons, List.flatten_cons, List.length_append, this, tx_len]
theorem joinEndL {K : PySem.W.Frag} {H : Hp} {D : Addr} {ys : List (List Bool)} {R : VK} (h : H D = some (.lst (ys.map fun y => V.str (tx y)))) (hl : ys.flatten.length ≤ 1000000) (q : R (.str (tx ys.flatten)) H) : rJoin K (.str "") [.ref D] H R := by
  refine ⟨"", D, ys.map tx, rfl, rfl, .inl (SqL.of (by rw [h, List.map_map]; rfl)), ?_, ?_⟩
  · rw [jsumL, show ("" : Str).length = 0 from rfl]
    omega
  · rw [se, join_tx]
    exact q
theorem by_get (a b c d : Bool) : ∀ (f g : List Bool) (i : Nat) (x y : Bool), f[i]? = some x → g[i]? = some y → (byL a b c d f g)[i]? = some (if x then (if y then d else c) else (if y then b else a))
  | [], g, i, x, y, h, _ => by simp at h
  | _ :: _, [], i, x, y, _, h => by simp at h
  | u :: r, v :: s, 0, x, y, h, h2 => by simp at h h2; subst h; subst h2; simp [byL]
  | u :: r, v :: s, i + 1, x, y, h, h2 => by
    simp only [List.getElem?_cons_succ] at h h2
    simp only [byL, List.getElem?_cons_succ]
    exact by_get a b c d r s i x y h h2
theorem by_len (a b c d : Bool) : ∀ (f g : List Bool), (byL a b c d f g).length = min f.length g.length
  | [], g => by simp [byL]
  | _ :: _, [] => by simp [byL]
  | u :: r, v :: s => by
    have := by_len a b c d r s
    simp only [byL, List.length_cons, this]
    omega
theorem keep_snoc : ∀ (f g : List Bool) (i : Nat) (x y : Bool), f[i]? = some x → g[i]? = some y → keepL (f.take (i + 1)) (g.take (i + 1)) = keepL (f.take i) (g.take i) ++ (if y then [x] else [])
  | [], g, i, x, y, h, _ => by simp at h
  | _ :: _, [], i, x, y, _, h => by simp at h
  | u :: r, v :: s, 0, x, y, h, h2 => by simp at h h2; subst h; subst h2; cases v <;> simp [keepL]
  | u :: r, v :: s, i + 1, x, y, h, h2 => by
    simp only [List.getElem?_cons_succ] at h h2
    have := keep_snoc r s i x y h h2
    rw [List.take_succ_cons, List.take_succ_cons, List.take_succ_cons, List.take_succ_cons]
    cases v
    · simp only [keepL]; exact this
    · simp only [keepL, if_true, this]; rfl
theorem keep_all : ∀ (f g : List Bool), keepL (f.take (min f.length g.length)) (g.take (min f.length g.length)) = keepL f g
  | [], g => by simp [keepL]
  | _ :: _, [] => by simp [keepL]
  | u :: r, v :: s => by
    have := keep_all r s
    rw [show min (u :: r).length (v :: s).length = min r.length s.length + 1 by simp only [List.length_cons]; omega, List.take_succ_cons, List.take_succ_cons]
    cases v
    · simp only [keepL]; exact this
    · simp only [keepL, this]
def spOfOne : Sp := fun vs H Q _ => ∃ v t bs, vs = [v, .str (tx bs)] ∧ TA H v t ∧ t.parts.length = 1 ∧ bs.length ≤ 40000 ∧ ∀ H', Same H H' → Q (.str (tx (op1 t bs))) H'
def spOfTwo : Sp := fun vs H Q _ => ∃ v t fs gs, vs = [v, .str (tx fs), .str (tx gs)] ∧ TA H v t ∧ t.parts.length = 2 ∧ t.word ≠ "then" ∧ fs.length ≤ 40000 ∧ ∀ H', Same H H' → Q (.str (tx (op2 t fs gs))) H'
section
variable {P : Program} {w : World} {K : PySem.W.Frag} {mg : Str → Option Value} {base : Heap} {aS a1 a2 : Addr} {f : Addr} {fd : FuncData}
end
end FY


set_option Elab.async false
set_option linter.all false
set_option maxRecDepth 100000
set_option maxHeartbeats 4000000
namespace FY
open PySem L2 FYR
def spFlowBy (n : Nat) : Sp := fun vs H Q _ => ∃ v t bs, vs = [v, .str (tx bs)] ∧ TA H v t ∧ t.nodes ≤ n ∧ t.nodes ≤ 9 ∧ 2 ^ (t.nodes - 1) * bs.length ≤ 8000 ∧ ∀ H', Same H H' → Q (.str (tx (flow t bs))) H'
def spFlowOf : Sp := fun vs H Q _ => ∃ v t bs, vs = [v, .str (tx bs)] ∧ TA H v t ∧ t.nodes ≤ 9 ∧ bs.length ≤ 1000 ∧ 2 ^ (t.nodes - 1) * bs.length ≤ 8000 ∧ ∀ H', Same H H' → Q (.str (tx (flow t bs))) H'
theorem pow_le {a b n : Nat} (h : a ≤ b) (hb : 2 ^ b * n ≤ 8000) : 2 ^ a * n ≤ 8000 := Nat.le_trans (Nat.mul_le_mul_right n (Nat.pow_le_pow_right (by decide) h)) hb
theorem thn_le {t u : Tm} {bs : List Bool} (hb : 2 ^ (t.nodes + u.nodes + 1 - 1) * bs.length ≤ 8000) : 2 ^ (u.nodes - 1) * (flow t bs).length ≤ 8000 := by
  have h1 := flow_len t bs
  have h3 := t.nodes_pos
  have h4 := u.nodes_pos
  have e1 := Nat.mul_le_mul_left (2 ^ (u.nodes - 1)) h1
  rw [← Nat.mul_assoc, ← Nat.pow_add] at e1
  exact Nat.le_trans e1 (pow_le (by omega) hb)
theorem flow_8000 {t : Tm} {bs : List Bool} (hb : 2 ^ (t.nodes - 1) * bs.length ≤ 8000) : (flow t bs).length ≤ 8000 := Nat.le_trans (flow_len t bs) hb
theorem flow_op1 (t : Tm) (bs : List Bool) (u : Tm) (h : t.parts = [u]) : flow t bs = op1 t (flow u bs) := by
  cases t <;> simp [Tm.parts] at h <;> subst h <;> rfl
theorem flow_op2 (t : Tm) (bs : List Bool) (u v : Tm) (h : t.parts = [u, v]) (hw : t.word ≠ "then") : flow t bs = op2 t (flow u bs) (flow v bs) := by
  cases t <;> simp [Tm.parts] at h
  · obtain ⟨rfl, rfl⟩ := h; rfl
  · obtain ⟨rfl, rfl⟩ := h; rfl
  · exact absurd rfl hw
theorem parts_two (t : Tm) (h : t.isIn = false) : (∃ u, t.parts = [u]) ∨ ∃ u v, t.parts = [u, v] := by
  cases t with
  | inn => cases h
  | one _ _ => exact .inl ⟨_, rfl⟩
  | late _ _ => exact .inl ⟨_, rfl⟩
  | _ => exact .inr ⟨_, _, rfl⟩
theorem parts_nodes {t u : Tm} (h : u ∈ t.parts) : u.nodes + 1 ≤ t.nodes := by
  have := sumN_parts t
  have := sumN_mem _ _ h
  omega
theorem paired_get {α β : Type} {R : α → β → Prop} {a : List α} {b : List β} (h : Paired R a b) {i : Nat} {x : α} (hx : a[i]? = some x) : ∃ y, b[i]? = some y ∧ R x y := by
  induction h generalizing i with
  | nil => simp at hx
  | cons r q ih =>
    cases i with
    | zero => simp at hx; subst hx; exact ⟨_, rfl, r⟩
    | succ i => exact ih hx
def Tm.isThn : Tm → Bool | .thn _ _ => true | _ => false
theorem word_then (t : Tm) : decide (V.str t.word = V.str "then") = t.isThn := by
  cases t with
  | one w t => 
    cases w with
    | no => exact (by decide +kernel : decide (V.str ("not" : Str) = V.str ("then" : Str)) = false)
    | twice => exact (by decide +kernel : decide (V.str ("twice" : Str) = V.str ("then" : Str)) = false)
    | half => exact (by decide +kernel : decide (V.str ("half" : Str) = V.str ("then" : Str)) = false)
    | change => exact (by decide +kernel : decide (V.str ("change" : Str) = V.str ("then" : Str)) = false)
    | count => exact (by decide +kernel : decide (V.str ("count" : Str) = V.str ("then" : Str)) = false)
  | inn => exact (by decide +kernel : decide (V.str ("in" : Str) = V.str ("then" : Str)) = false)
  | late _ _ => exact (by decide +kernel : decide (V.str ("late" : Str) = V.str ("then" : Str)) = false)
  | byy _ _ _ _ _ _ => exact (by decide +kernel : decide (V.str ("by" : Str) = V.str ("then" : Str)) = false)
  | keep _ _ => exact (by decide +kernel : decide (V.str ("keep" : Str) = V.str ("then" : Str)) = false)
  | thn _ _ => exact (by decide +kernel : decide (V.str ("then" : Str) = V.str ("then" : Str)) = true)
theorem at0 {α : Type} {x : α} {xs : List α} : atI (x :: xs) 0 = some x := by
  unfold atI ixN
  simp
section
variable {P : Program} {w : World} {K : PySem.W.Frag} {mg : Str → Option Value} {base : Heap} {aS a1 a2 : Addr} {f : Addr} {fd : FuncData}
end
end FY


set_option Elab.async false
set_option linter.all false
set_option maxRecDepth 100000
set_option maxHeartbeats 4000000
namespace FY
open PySem L2 FYR
theorem hu1 {k : Nat} {A : Around} (r : Room k A) : A.units + 1 < cLine := by have := r.units; omega
theorem sg_ne' (x y : Bool) : (!decide (V.str ⟨#[cd x]⟩ = V.str (sgn y))) = (x != y) := sg_ne x y
theorem upd_upd {H : Hp} {p : Addr} {o o' : HO} : upd (upd H p o) p o' = upd H p o' := by
  funext b
  by_cases h : b = p
  · rw [h, upd_same, upd_same]
  · rw [upd_ne h, upd_ne h, upd_ne h]
section
variable {P : Program} {w : World} {K : PySem.W.Frag} {mg : Str → Option Value} {base : Heap} {aS a1 a2 : Addr} {f : Addr} {fd : FuncData}
end
end FY


set_option Elab.async false
set_option linter.all false
set_option maxRecDepth 100000
set_option maxHeartbeats 4000000
namespace FY
open PySem L2 FYR
def spFlowL (n : Nat) : Sp := fun vs H Q _ => ∃ v t bs, vs = [v, .str (tx bs)] ∧ TA H v t ∧ t.nodes ≤ n ∧ t.nodes ≤ 40 ∧ 2 ^ (t.nodes - 1) * bs.length ≤ 40000 ∧ ∀ H', Same H H' → Q (.str (tx (flow t bs))) H'
theorem powL {a b n : Nat} (h : a ≤ b) (hb : 2 ^ b * n ≤ 40000) : 2 ^ a * n ≤ 40000 := Nat.le_trans (Nat.mul_le_mul_right n (Nat.pow_le_pow_right (by decide) h)) hb
theorem thnL {t u : Tm} {bs : List Bool} (hb : 2 ^ (t.nodes + u.nodes + 1 - 1) * bs.length ≤ 40000) : 2 ^ (u.nodes - 1) * (flow t bs).length ≤ 40000 := by
  have h1 := flow_len t bs
  have h3 := t.nodes_pos
  have h4 := u.nodes_pos
  have e1 := Nat.mul_le_mul_left (2 ^ (u.nodes - 1)) h1
  rw [← Nat.mul_assoc, ← Nat.pow_add] at e1
  exact Nat.le_trans e1 (powL (by omega) hb)
theorem flowL {t : Tm} {bs : List Bool} (hb : 2 ^ (t.nodes - 1) * bs.length ≤ 40000) : (flow t bs).length ≤ 40000 := Nat.le_trans (flow_len t bs) hb
theorem sz2 {a b : V} : [a, b].length ≤ sizeLine := (by decide : 2 ≤ sizeLine)
theorem oNw (w : W1) : (if true = true then !inV (.str w.s) [.str "by", .str "keep"] else inV (.str w.s) [.str "by", .str "keep"]) = true := by cases w <;> decide +kernel
theorem oNl : (if true = true then !inV (.str "late") [.str "by", .str "keep"] else inV (.str "late") [.str "by", .str "keep"]) = true := by decide +kernel
theorem oNb : (if true = true then !inV (.str "by") [.str "by", .str "keep"] else inV (.str "by") [.str "by", .str "keep"]) = false := by decide +kernel
theorem oNk : (if true = true then !inV (.str "keep") [.str "by", .str "keep"] else inV (.str "keep") [.str "by", .str "keep"]) = false := by decide +kernel
theorem _root_.List.getElem?_map_some {α β : Type} {f : α → β} {l : List α} {i : Nat} {y : β} (h : (l.map f)[i]? = some y) : ∃ x, l[i]? = some x ∧ y = f x := by
  rw [List.getElem?_map] at h
  obtain ⟨x, hx, rfl⟩ := Option.map_eq_some_iff.mp h
  exact ⟨x, hx, rfl⟩
theorem zipV_get {f g : List Bool} {i : Nat} {q : V × V} (h : (zipV (tx f) (tx g))[i]? = some q) : ∃ x y, f[i]? = some x ∧ g[i]? = some y ∧ q = (.str ⟨#[cd x]⟩, .str ⟨#[cd y]⟩) := by
  unfold zipV at h
  obtain ⟨p, hp, rfl⟩ := List.getElem?_map_some h
  rw [tx_toList, tx_toList, List.getElem?_zip_eq_some] at hp
  obtain ⟨h1, h2⟩ := hp
  obtain ⟨x, hx, e1⟩ := List.getElem?_map_some h1
  obtain ⟨y, hy, e2⟩ := List.getElem?_map_some h2
  exact ⟨x, y, hx, hy, by rw [e1, e2]; rfl⟩
section
variable {P : Program} {w : World} {K : PySem.W.Frag} {mg : Str → Option Value} {base : Heap} {aS a1 a2 : Addr} {f : Addr} {fd : FuncData}
end
def spNodes (n : Nat) : Sp := fun vs H Q _ => ∃ v t, vs = [v] ∧ TA H v t ∧ t.dep ≤ n ∧ t.dep ≤ 60 ∧ ∀ H', Same H H' → Q (.int t.nodes) H'
theorem extra_not (t : Tm) (z : Str) (h : z ∈ t.extra) : PyData.eqv (.str z) (.str "in") = false ∧ SeqAt.shaped (.str z) = true := by
  cases t with
  | late b t =>
    simp [Tm.extra] at h
    subst h
    cases b <;> exact ⟨by decide +kernel, by decide +kernel⟩
  | byy a b c d t u =>
    simp [Tm.extra] at h
    subst h
    cases a <;> cases b <;> cases c <;> cases d <;> exact ⟨by decide +kernel, by decide +kernel⟩
  | _ => simp [Tm.extra] at h
theorem cut1 (x : V) (xs : List V) : cutV (x :: xs) (some 1) none = xs := by
  unfold cutV
  rw [HT.sIx_none, show HT.sIx (x :: xs).length 0 (some 1) = 1 by
    have := HT.sIx_nat (x :: xs).length 0 1
    simp only [List.length_cons] at this ⊢
    rw [show ((1 : Nat) : Int) = 1 from rfl] at this
    rw [this]; omega]
  simp
theorem nwh (x : V) (xs : List V) {p : Prop} : ¬ (HT.sIx (x :: xs).length 0 (some 1) = 0 ∧ p) := by
  have := HT.sIx_nat (x :: xs).length 0 1
  rw [show ((1 : Nat) : Int) = 1 from rfl] at this
  rw [this]
  simp only [List.length_cons]
  omega
theorem extra_le (t : Tm) : t.extra.length ≤ 1 := by cases t <;> simp [Tm.extra]
theorem sum_nodes : ∀ ts : List Tm, (ts.map fun t => (t.nodes : Int)).sum = sumN ts
  | [] => rfl
  | t :: r => by simp [sumN, sum_nodes r]
section
variable {P : Program} {w : World} {K : PySem.W.Frag} {mg : Str → Option Value} {base : Heap} {aS a1 a2 : Addr} {f : Addr} {fd : FuncData}
end
end FY


set_option Elab.async false
set_option linter.all false
set_option maxRecDepth 100000
set_option maxHeartbeats 4000000
namespace FY
open PySem L2 FYR
/-- all but p stays -/
def Kp (p : Addr) (H H' : Hp) : Prop := ∀ b o, b ≠ p → H b = some o → H' b = some o
def Pot (p : Addr) (H : Hp) : Prop := ∃ a b : Int, H p = some (.lst [.int a, .int b]) ∧ 0 ≤ a ∧ 0 ≤ b ∧ b < 2147483647
theorem Kp.refl (p : Addr) (H : Hp) : Kp p H H := fun _ _ _ h => h
theorem Kp.trans {p : Addr} {H H1 H2 : Hp} (a : Kp p H H1) (b : Kp p H1 H2) : Kp p H H2 := fun x o n e => b x o n (a x o n e)
theorem Kp.of {p : Addr} {H H' : Hp} (s : Same H H') : Kp p H H' := fun b o _ e => s b o e
theorem Pot.tups {p : Addr} {H H' : Hp} (a : Pot p H) (k : Kp p H H') : Tups H H' := fun b xs e => by
  obtain ⟨_, _, h, _⟩ := a
  refine k b _ (fun z => ?_) e
  rw [z, h] at e
  cases e
theorem Pot.same {p : Addr} {H H' : Hp} (a : Pot p H) (s : Same H H') : Pot p H' := by
  obtain ⟨x, y, h, r⟩ := a
  exact ⟨x, y, s _ _ h, r⟩
theorem Pot.ne {p q : Addr} {H : Hp} (a : Pot p H) (h : H q = none) : q ≠ p := fun z => by
  obtain ⟨_, _, e, _⟩ := a
  rw [z, e] at h
  cases h
theorem kp_new {p q : Addr} {H : Hp} (h : H q = none) (o : HO) : Kp p H (upd H q o) := Kp.of (same_new h o)
theorem kp_upd {p : Addr} {H : Hp} (o : HO) : Kp p H (upd H p o) := fun b u n e => by rw [upd_ne n]; exact e
def spDraw : Sp := fun vs H Q _ => ∃ p n, vs = [.ref p, .int n] ∧ Pot p H ∧ 0 < n ∧ n < 1073741824 ∧ ∀ (d : Int) (H' : Hp), 0 ≤ d → d < n → Kp p H H' → Pot p H' → Q (.int d) H'
def spPick : Sp := fun vs H Q _ => ∃ p L xs, vs = [.ref p, .ref L] ∧ Pot p H ∧ L ≠ p ∧ H L = some (.lst xs) ∧ 0 < xs.length ∧ xs.length ≤ 100 ∧ ∀ (x : V) (H' : Hp), x ∈ xs → Kp p H H' → Pot p H' → Q x H'
def spTerm (n : Nat) : Sp := fun vs H Q _ => ∃ p m, vs = [.ref p, .int m] ∧ Pot p H ∧ 1 ≤ m ∧ m ≤ n ∧ n ≤ 1000 ∧ ∀ (v : V) (t : Tm) (H' : Hp), TA H' v t → (t.nodes : Int) ≤ m → Kp p H H' → Pot p H' → Q v H'
def spStream : Sp := fun vs H Q _ => ∃ p m, vs = [.ref p, .int m] ∧ Pot p H ∧ 0 ≤ m ∧ m ≤ 1000 ∧ ∀ (bs : List Bool) (H' : Hp), (bs.length : Int) ≤ m → Kp p H H' → Pot p H' → Q (.str (tx bs)) H'
def spAround : Sp := fun vs H Q _ => ∃ p v t, vs = [.ref p, v] ∧ Pot p H ∧ TA H v t ∧ ∀ (v' : V) (t' : Tm) (H' : Hp), TA H' v' t' → t'.nodes ≤ t.nodes + 3 → Kp p H H' → Pot p H' → Q v' H'
theorem atI_mem {xs : List V} {d : Int} (h0 : 0 ≤ d) (h1 : d < xs.length) : ∃ x, atI xs d = some x ∧ x ∈ xs := by
  have hl : d.toNat < xs.length := by omega
  refine ⟨xs[d.toNat], ?_, List.getElem_mem hl⟩
  unfold atI ixN
  rw [if_pos h0, if_pos h1]
  show xs[d.toNat]? = _
  rw [List.getElem?_eq_getElem hl]
section
variable {P : Program} {w : World} {K : PySem.W.Frag} {mg : Str → Option Value} {base : Heap} {aS a1 a2 : Addr} {f : Addr} {fd : FuncData}
abbrev s_law_draw : Stmt := top 71
abbrev N_law_draw : List Str := ["_law_pot_here", "_law_many", "_law_digit"]
theorem sc_law_draw : FnScope N_law_draw ["_law_pot_here", "_law_many"] (defScope s_law_draw) := ⟨rfl, rfl, rfl, by decide +kernel, rfl, by decide +kernel, by decide +kernel⟩
theorem ok_law_draw (F : Fun K "_law_draw" "_law_draw" s_law_draw f fd) (T : Txt K mg aS a1 a2) : FnOk P w K mg base CX0 1 f fd ["_law_pot_here", "_law_many"] spDraw := by
  refine F.ok sc_law_draw (fun vs H Q E h => ?_) (fun cdv A outer s H vs Q E hr h => ?_)
  · obtain ⟨p, n, rfl, _⟩ := h
    rfl
  obtain ⟨p, n, rfl, ⟨a, b, hp, ha, hb0, hb1⟩, hn0, hn1, q⟩ := h
  refine ⟨_, (pss_cons (ps_if (pt_cmpR op_gt (pe_ix (kIxL K rfl) (pv 0) pe_int (fun _ _ => rfl)) pe_int (nomark _))
        (pss_cons (ps_asg (pe_callB call_divmodW rfl T.b_divmod bt_divmod (pa_cons (pe_ix (kIxL K rfl) (pv 0) pe_int (fun _ _ => rfl)) (pa_cons (pv 1) pa_nil))) (kTupG (n := 2) K rfl rfl (pgs_cons (pg_sub (pv 0) pe_int set_list) (pgs_cons (pg_name (i := 2) sc_law_draw.nd rfl (Or.inl rfl)) pgs_nil))))
        (pss_one (ps_ret (pv 2))))
        pss_nil)
        (pss_cons (ps_asg (pe_op op_mod (pe_callTy call_int1 rfl T.b_int bt_int (pa_cons (pe_op op_add (pe_op op_mul (pe_ix (kIxL K rfl) (pv 0) pe_int (fun _ _ => rfl)) pe_int) pe_int) pa_nil)) pe_int) (pg_sub (pv 0) pe_int set_list))
        (pss_one (ps_ret (pe_op op_mod (pe_callTy call_int1 rfl T.b_int bt_int (pa_cons (pe_op op_fdiv (pe_op op_mod (pe_callTy call_int1 rfl T.b_int bt_int (pa_cons (pe_op op_mul (pe_ix (kIxL K rfl) (pv 0) pe_int (fun _ _ => rfl)) (pe_ix (kIxL K rfl) (pv 0) pe_int (fun _ _ => rfl))) pa_nil)) pe_int) pe_int) pa_nil)) (pv 1)))))), ?_⟩
  refine ⟨_, rfl, _, _, _, _, rfl, rfl, SqL.of hp, rfl, _, _, rfl, rfl, _, rfl, ?_⟩
  by_cases h0 : 0 < a
  · refine iteTd (by simpa using h0) ?_
    refine ⟨_, rfl, _, _, _, _, rfl, rfl, SqL.of hp, rfl, _, rfl, _, _, rfl, ⟨hn0, PyProof.noPylong_small (by omega)⟩, fun T0 hT => ?_⟩
    have hne : p ≠ T0 := fun z => by rw [← z, hp] at hT; cases hT
    refine ⟨_, _, rfl, SqT.of upd_same, rfl, _, _, rfl, _, rfl, _, _, _, _, rfl, rfl, (upd_ne hne).trans hp, rfl, _, _, rfl, rfl, _, rfl, ?_⟩
    refine q _ _ (Int.emod_nonneg _ (by omega)) (Int.emod_lt_of_pos _ hn0) ((kp_new hT _).trans (kp_upd _)) ⟨_, _, upd_same, Int.ediv_nonneg ha (by omega), hb0, hb1⟩
  · refine iteFd (by simpa using h0) ?_
    refine ⟨_, rfl, _, _, _, _, rfl, rfl, SqL.of hp, rfl, _, _, rfl, rfl, .inr (by decide), _, _, rfl, rfl, .inl ⟨_, rfl, _, _, rfl, rfl, (by decide : (0 : Int) < 2147483629), _, rfl, _, _, _, _, rfl, rfl, hp, rfl, ?_⟩⟩
    refine ⟨_, rfl, _, _, _, _, rfl, rfl, SqL.of upd_same, rfl, _, rfl, _, _, _, _, rfl, rfl, SqL.of upd_same, rfl, _, _, rfl, rfl, .inl ?_, .inl ⟨_, rfl, _, _, rfl, rfl, (by decide : (0 : Int) < 2147483587), _, _, rfl, rfl, ⟨by decide, by decide⟩, .inl ⟨_, rfl, _, rfl, _, _, rfl, rfl, hn0, ?_⟩⟩⟩
    · have h1 := Int.emod_nonneg (b * 48271 + 11083) (show (2147483629 : Int) ≠ 0 by decide)
      have h2 := Int.emod_lt_of_pos (b * 48271 + 11083) (show (0 : Int) < 2147483629 by decide)
      constructor <;> omega
    · refine q _ _ (Int.emod_nonneg _ (by omega)) (Int.emod_lt_of_pos _ hn0) (kp_upd _) ⟨_, _, upd_same, ha, Int.emod_nonneg _ (by decide), ?_⟩
      have h2 := Int.emod_lt_of_pos (b * 48271 + 11083) (show (0 : Int) < 2147483629 by decide)
      omega
abbrev s_law_pick : Stmt := top 72
abbrev N_law_pick : List Str := ["_law_pot_here", "_law_some"]
theorem sc_law_pick : FnScope N_law_pick ["_law_pot_here", "_law_some"] (defScope s_law_pick) := ⟨rfl, rfl, rfl, by decide +kernel, rfl, by decide +kernel, by decide +kernel⟩
theorem ok_law_pick (F : Fun K "_law_pick" "_law_pick" s_law_pick f fd) (T : Txt K mg aS a1 a2) (c__law_draw : C8.Cal P w K mg base 1 "_law_draw" spDraw []) : FnOk P w K mg base CX0 2 f fd ["_law_pot_here", "_law_some"] spPick := by
  refine F.ok sc_law_pick (fun vs H Q E h => ?_) (fun cdv A outer s H vs Q E hr h => ?_)
  · obtain ⟨p, n, xs, rfl, _⟩ := h
    rfl
  obtain ⟨p, L, xs, rfl, hp, hne, hL, h0, h1, q⟩ := h
  refine ⟨_, (pss_one (ps_ret (pe_ix (kIxL K rfl) (pv 1) (C8.pe_c c__law_draw hr (by decide) rfl (pa_cons (pv 0) (pa_cons (pe_callB (kLen K rfl) rfl T.b_len bt_len (pa_cons (pv 1) pa_nil)) pa_nil))) (fun _ _ => rfl)))), ?_⟩
  refine ⟨_, rfl, _, rfl, _, rfl, _, _, rfl, .inl (SqL.of hL), p, _, rfl, hp, by omega, by omega, fun d H' d0 d1 k pt => ?_⟩
  obtain ⟨x, hx, hm⟩ := atI_mem d0 d1
  exact ⟨_, _, _, x, rfl, rfl, SqL.of (k _ _ hne hL), hx, q _ _ hm k pt⟩
end
end FY


set_option Elab.async false
set_option linter.all false
set_option maxRecDepth 100000
set_option maxHeartbeats 4000000
namespace FY
open PySem L2 FYR
def spPot (K : PySem.W.Frag) : Sp := fun vs H Q _ => ∃ (L : Addr) (ns : List Int) (k : Int), vs = [.ref L, .int k] ∧ SqL K H L (ns.map V.int) ∧ 0 ≤ k ∧ k < 64 ∧ ∀ (H' : Hp) (p : Addr), Same H H' → H p = none → Pot p H' → Q (.ref p) H'
theorem sz {xs : List V} (h : Nat.ble xs.length 10 = true) : xs.length ≤ sizeLine := Nat.le_trans (Nat.le_of_ble_eq_true h) (by decide)
theorem kp_at {p L : Addr} {H H1 : Hp} {o : HO} (a : Kp p H H1) (h : H L = none) : Kp p H (upd H1 L o) := fun b u n e => by
  rw [upd_ne (ne_of_none e h)]
  exact a b u n e
theorem pot_at {p L : Addr} {H : Hp} {o : HO} (a : Pot p H) (h : L ≠ p) : Pot p (upd H L o) := by
  obtain ⟨x, y, e, r⟩ := a
  exact ⟨x, y, (upd_ne (Ne.symm h)).trans e, r⟩
theorem w6 {x : V} (h : x ∈ [V.str "not", V.str "twice", V.str "half", V.str "change", V.str "count", V.str "late"]) : (∃ w : W1, x = .str w.s) ∨ x = .str "late" := by
  simp only [List.mem_cons, List.not_mem_nil, or_false] at h
  rcases h with h | h | h | h | h | h
  · exact .inl ⟨.no, h⟩
  · exact .inl ⟨.twice, h⟩
  · exact .inl ⟨.half, h⟩
  · exact .inl ⟨.change, h⟩
  · exact .inl ⟨.count, h⟩
  · exact .inr h
theorem w5 {x : V} (h : x ∈ [V.str "not", V.str "twice", V.str "half", V.str "change", V.str "count"]) : ∃ w : W1, x = .str w.s := by
  simp only [List.mem_cons, List.not_mem_nil, or_false] at h
  rcases h with h | h | h | h | h
  · exact ⟨.no, h⟩
  · exact ⟨.twice, h⟩
  · exact ⟨.half, h⟩
  · exact ⟨.change, h⟩
  · exact ⟨.count, h⟩
theorem w4 {x : V} (h : x ∈ [V.str "by", V.str "by", V.str "keep", V.str "then"]) : x = .str "by" ∨ x = .str "keep" ∨ x = .str "then" := by
  simp only [List.mem_cons, List.not_mem_nil, or_false] at h
  rcases h with h | h | h | h
  · exact .inl h
  · exact .inl h
  · exact .inr (.inl h)
  · exact .inr (.inr h)
theorem w2 {x : V} (h : x ∈ [V.str "0", V.str "1"]) : ∃ b, x = .str (sgn b) := by
  simp only [List.mem_cons, List.not_mem_nil, or_false] at h
  rcases h with h | h
  · exact ⟨false, by rw [h, s0]⟩
  · exact ⟨true, by rw [h, s1]⟩
theorem tb4 {x : V} {bs : List Bool} (hb : bs.length = 4) (h : x ∈ [V.str "0110", V.str "0001", V.str "0111", V.str (tx bs)]) : ∃ a b c d, x = .str (tx [a, b, c, d]) := by
  simp only [List.mem_cons, List.not_mem_nil, or_false] at h
  rcases h with h | h | h | h
  · exact ⟨false, true, true, false, by rw [h]; exact congrArg V.str (by decide +kernel)⟩
  · exact ⟨false, false, false, true, by rw [h]; exact congrArg V.str (by decide +kernel)⟩
  · exact ⟨false, true, true, true, by rw [h]; exact congrArg V.str (by decide +kernel)⟩
  · match bs, hb with
    | [a, b, c, d], _ => exact ⟨a, b, c, d, h⟩
section
variable {P : Program} {w : World} {K : PySem.W.Frag} {mg : Str → Option Value} {base : Heap} {aS a1 a2 : Addr} {f : Addr} {fd : FuncData}
abbrev s_law_pot : Stmt := top 70
abbrev N_law_pot : List Str := ["_law_script", "_law_k", "_law_cell"]
theorem sc_law_pot : FnScope N_law_pot ["_law_script", "_law_k"] (defScope s_law_pot) := ⟨rfl, rfl, rfl, by decide +kernel, rfl, by decide +kernel, by decide +kernel⟩
theorem ok_law_pot (F : Fun K "_law_pot" "_law_pot" s_law_pot f fd) (T : Txt K mg aS a1 a2) : FnOk P w K mg base CX0 1 f fd ["_law_script", "_law_k"] (spPot K) := by
  refine F.ok sc_law_pot (fun vs H Q E h => ?_) (fun cdv A outer s H vs Q E hr h => ?_)
  · obtain ⟨L, ns, k, rfl, _⟩ := h
    rfl
  obtain ⟨L, ns, k, rfl, hS, k0, k1, q⟩ := h
  refine ⟨_, (pss_cons (ps_set (i := 2) sc_law_pot.nd rfl (Or.inl rfl) (pe_ifExp (pt_cmpR op_lt (pv 1) (pe_callB (kLen K rfl) rfl T.b_len bt_len (pa_cons (pv 0) pa_nil)) (nomark _)) (pe_callB call_abs rfl T.b_abs bt_abs (pa_cons (pe_ix (kIxL K rfl) (pv 0) (pv 1) (fun _ _ => rfl)) pa_nil)) (pe_op op_add (pe_op op_mul pe_int (pv 1)) pe_int)))
        (pss_one (ps_ret (pe_lst (pa_cons (pe_callB (call_max2 rfl) rfl T.b_max bt_max (pa_cons pe_int (pa_cons (pe_op op_sub (pv 2) (pe_op op_pow pe_int pe_int)) pa_nil))) (pa_cons (pe_op op_add (pe_op op_mod (pe_callTy call_int1 rfl T.b_int bt_int (pa_cons (pe_op op_add (pe_op op_add (pe_op op_mul (pe_op op_mod (pe_callTy call_int1 rfl T.b_int bt_int (pa_cons (pv 2) pa_nil)) pe_int) pe_int) (pe_op op_mul pe_int (pv 1))) pe_int) pa_nil)) pe_int) pe_int) pa_nil)))))), ?_⟩
  refine ⟨_, rfl, _, rfl, _, _, rfl, .inl hS, _, _, rfl, rfl, _, rfl, ?_⟩
  by_cases hk : k < (ns.map V.int).length
  · refine iteTd (by simpa using hk) ?_
    obtain ⟨x, hx, hm⟩ := atI_mem k0 hk
    obtain ⟨c, _, rfl⟩ := List.mem_map.mp hm
    refine ⟨_, rfl, _, rfl, _, _, _, _, rfl, rfl, hS, hx, c, rfl, ?_⟩
    refine ⟨_, rfl, _, _, rfl, rfl, ⟨by decide, by decide, by decide⟩, _, _, rfl, rfl, _, _, rfl, ?_⟩
    refine ⟨_, rfl, .inl ⟨_, rfl, _, _, rfl, rfl, (by decide : (0 : Int) < 2147483579), _, _, rfl, rfl, .inr (by decide), _, rfl, _, _, rfl, rfl, .inl (by decide), _, _, rfl, rfl, _, _, rfl, rfl, .inl ⟨_, rfl, _, _, rfl, rfl, (by decide : (0 : Int) < 2147483629), _, _, rfl, rfl, sz2, fun p hp => ?_⟩⟩⟩
    refine q _ _ (same_new hp _) hp ⟨_, _, upd_same, ?_, ?_, ?_⟩
    · split <;> omega
    · have := Int.emod_nonneg ((if c < 0 then -c else c) % 2147483579 * 40153 + 7621 * k + 53) (show (2147483629 : Int) ≠ 0 by decide)
      omega
    · have := Int.emod_lt_of_pos ((if c < 0 then -c else c) % 2147483579 * 40153 + 7621 * k + 53) (show (0 : Int) < 2147483629 by decide)
      omega
  · refine iteFd (by simpa using hk) ⟨_, rfl, _, _, rfl, rfl, .inl (by decide), _, _, rfl, rfl, ?_⟩
    refine ⟨_, rfl, _, _, rfl, rfl, ⟨by decide, by decide, by decide⟩, _, _, rfl, rfl, _, _, rfl, ?_⟩
    refine ⟨_, rfl, .inl ⟨_, rfl, _, _, rfl, rfl, (by decide : (0 : Int) < 2147483579), _, _, rfl, rfl, .inr (by decide), _, rfl, _, _, rfl, rfl, .inl (by decide), _, _, rfl, rfl, _, _, rfl, rfl, .inl ⟨_, rfl, _, _, rfl, rfl, (by decide : (0 : Int) < 2147483629), _, _, rfl, rfl, sz2, fun p hp => ?_⟩⟩⟩
    refine q _ _ (same_new hp _) hp ⟨_, _, upd_same, ?_, ?_, ?_⟩
    · split <;> omega
    · have := Int.emod_nonneg ((53 * k + 23) % 2147483579 * 40153 + 7621 * k + 53) (show (2147483629 : Int) ≠ 0 by decide)
      omega
    · have := Int.emod_lt_of_pos ((53 * k + 23) % 2147483579 * 40153 + 7621 * k + 53) (show (0 : Int) < 2147483629 by decide)
      omega
abbrev s_law_stream : Stmt := top 84
abbrev N_law_stream : List Str := ["_law_pot_here", "_law_most", "_law_turn"]
theorem sc_law_stream : FnScope N_law_stream ["_law_pot_here", "_law_most"] (defScope s_law_stream) := ⟨rfl, rfl, rfl, by decide +kernel, rfl, by decide +kernel, by decide +kernel⟩
theorem ok_law_stream (F : Fun K "_law_stream" "_law_stream" s_law_stream f fd) (T : Txt K mg aS a1 a2) (c__law_draw : C8.Cal P w K mg base 1 "_law_draw" spDraw []) (c__law_pick : C8.Cal P w K mg base 2 "_law_pick" spPick []) : FnOk P w K mg base CX0 3 f fd ["_law_pot_here", "_law_most"] spStream := by
  refine F.ok sc_law_stream (fun vs H Q E h => ?_) (fun cdv A outer s H vs Q E hr h => ?_)
  · obtain ⟨p, m, rfl, _⟩ := h
    rfl
  obtain ⟨p, m, rfl, p0, m0, m1, q⟩ := h
  refine ⟨_, (pss_one (ps_ret (kJoin K rfl pe_str (pe_lc (own := [("_law_turn", 2)]) rfl sc_law_stream.nd (pi_range1 rfl T.b_range (pa_cons (C8.pe_c c__law_draw hr (by decide) rfl (pa_cons (pv 0) (pa_cons (pe_op op_add (pv 1) pe_int) pa_nil))) pa_nil)) (blkOk_by (N := N_law_stream) (sc := defScope s_law_stream) (by decide +kernel)) (fun _ _ _ _ _ => (pg_name (i := 2) sc_law_stream.nd rfl (Or.inl rfl))) (fun _ _ _ _ _ => pts_nil) (fun _ _ _ _ _ => (C8.pe_c c__law_pick hr (by decide) rfl (pa_cons (pv 0) (pa_cons (pe_lst (pa_cons pe_str (pa_cons pe_str pa_nil))) pa_nil)))))))), ?_⟩
  refine ⟨⟨_, rfl⟩, _, rfl, _, rfl, _, _, rfl, rfl, p, _, rfl, p0, by omega, by omega, fun d H5 d0 d1 k5 p5 => ?_⟩
  refine ⟨d, rfl, by omega, by omega, fun D hD => lc_it walk_range (fun i H' => ∃ bs : List Bool, bs.length = i ∧ H' D = some (.lst (bs.map vs)) ∧ Kp p H5 H' ∧ Pot p H') ⟨[], rfl, upd_same, kp_new hD _, p5.same (same_new hD _)⟩ (fun _ _ _ _ => trivial) ?_ ?_⟩
  · rintro i x H6 H7 hi ⟨bs, hbs, hd, kk, pp⟩ ⟨rfl, rfl⟩
    refine ⟨rfl, tyI ⟨_, rfl, sz rfl, fun L hL => ⟨p, L, _, rfl, pp.same (same_new hL _), pp.ne hL, upd_same, by decide, by decide, fun y H8 hy k8 p8 => ?_⟩⟩⟩
    obtain ⟨b, rfl⟩ := w2 hy
    refine ⟨_, k8 _ _ (p5.ne hD) (same_new hL _ _ _ hd), ?_, bs ++ [b], by simp [hbs], by rw [upd_same]; simp, kp_at (kk.trans ((kp_new hL _).trans k8)) hD, pot_at p8 (p5.ne hD)⟩
    rw [List.length_map]
    exact Nat.lt_of_lt_of_le (show bs.length < 100000 by omega) (by decide)
  · rintro H6 ⟨bs, hbs, hd, kk, pp⟩
    exact joinEnd hd (by omega) (q _ _ (by omega) (k5.trans kk) pp)
end
end FY


set_option Elab.async false
set_option linter.all false
set_option maxRecDepth 100000
set_option maxHeartbeats 4000000
namespace FY
open PySem L2 FYR
/-! ## rows, standings, stations -/
structure Rw where
  gives : List (List Bool)
  goal : Nat
  ticks : Nat
inductive Rd where
  | one | two | both
def Rd.s : Rd → Str | .one => "1" | .two => "2" | .both => "12"
def Rd.many : Rd → Nat | .both => 4 | _ => 2
theorem Rd.many_le (r : Rd) : r.many ≤ 100000 := by cases r <;> decide
structure Sg where
  reads : Rd
  rows : List Rw
structure Stn where
  ins : Nat
  outs : Nat
  stgs : List Sg
def Rw.ok (r : Rw) (outs many : Nat) : Prop := r.gives.length = outs ∧ (∀ g ∈ r.gives, g.length ≤ 2) ∧ r.goal < many ∧ 1 ≤ r.ticks ∧ r.ticks ≤ 9
def Sg.ok (s : Sg) (ins outs many : Nat) : Prop := (s.reads = .one ∨ ins = 2) ∧ s.rows.length = s.reads.many ∧ ∀ r ∈ s.rows, r.ok outs many
structure Stn.ok (t : Stn) : Prop where
  i1 : 1 ≤ t.ins
  i2 : t.ins ≤ 2
  o1 : 1 ≤ t.outs
  o2 : t.outs ≤ 2
  m1 : 1 ≤ t.stgs.length
  m2 : t.stgs.length ≤ 4
  sg : ∀ s ∈ t.stgs, s.ok t.ins t.outs t.stgs.length
def RwA (H : Hp) (v : V) (r : Rw) : Prop := ∃ a g, v = .ref a ∧ H a = some (.tup [.ref g, .int r.goal, .int r.ticks]) ∧ H g = some (.tup (r.gives.map fun b => V.str (tx b)))
theorem RwA.keep {H H' : Hp} (k : Tups H H') {v : V} {r : Rw} (h : RwA H v r) : RwA H' v r := by
  obtain ⟨a, g, e, h1, h2⟩ := h
  exact ⟨a, g, e, k _ _ h1, k _ _ h2⟩
theorem rwA_all {H H' : Hp} (k : Tups H H') : ∀ {ws : List V} {rs : List Rw}, Paired (RwA H) ws rs → Paired (RwA H') ws rs
  | _, _, .nil => .nil
  | _, _, .cons r q => .cons (r.keep k) (rwA_all k q)
/-- a standing as it is told: its rows a list -/
def ToldA (H : Hp) (v : V) (s : Sg) : Prop := ∃ a q ws, v = .ref a ∧ H a = some (.tup [.str s.reads.s, .ref q]) ∧ H q = some (.lst ws) ∧ Paired (RwA H) ws s.rows
/-- a standing as it is kept: its rows a tuple -/
def SgA (H : Hp) (v : V) (s : Sg) : Prop := ∃ a q ws, v = .ref a ∧ H a = some (.tup [.str s.reads.s, .ref q]) ∧ H q = some (.tup ws) ∧ Paired (RwA H) ws s.rows
theorem SgA.keep {H H' : Hp} (k : Tups H H') {v : V} {s : Sg} (h : SgA H v s) : SgA H' v s := by
  obtain ⟨a, q, ws, e, h1, h2, p⟩ := h
  exact ⟨a, q, ws, e, k _ _ h1, k _ _ h2, rwA_all k p⟩
theorem ToldA.same {H H' : Hp} (k : Same H H') {v : V} {s : Sg} (h : ToldA H v s) : ToldA H' v s := by
  obtain ⟨a, q, ws, e, h1, h2, p⟩ := h
  exact ⟨a, q, ws, e, k _ _ h1, k _ _ h2, rwA_all (Tups.of k) p⟩
def spIsInt : Sp := fun vs H Q _ => ∃ n, vs = [.int n] ∧ Q (.bl true) H
def spIsCount : Sp := fun vs H Q _ => ∃ n, vs = [.int n] ∧ Q (.bl (decide (0 ≤ n))) H
def spIsBelow : Sp := fun vs H Q _ => ∃ n m, vs = [.int n, .int m] ∧ 0 ≤ n ∧ Q (.bl (decide (n < m))) H
def spIsList : Sp := fun vs H Q _ => ∃ L xs, vs = [.ref L] ∧ H L = some (.lst xs) ∧ ∀ H', Same H H' → Q (.bl true) H'
def spIsRow : Sp := fun vs H Q _ => ∃ (v : V) (r : Rw) (outs many : Nat), vs = [v, .int outs, .int many] ∧ RwA H v r ∧ r.ok outs many ∧ outs ≤ 2 ∧ ∀ H', Same H H' → Q (.bl true) H'
def spAreRead : Sp := fun vs H Q _ => ∃ (r : Rd) (ins : Nat), vs = [.str r.s, .int ins] ∧ (r = .one ∨ ins = 2) ∧ Q (.bl true) H
def spIsTold : Sp := fun vs H Q _ => ∃ (v : V) (s : Sg) (ins outs many : Nat), vs = [v, .int ins, .int outs, .int many] ∧ ToldA H v s ∧ s.ok ins outs many ∧ outs ≤ 2 ∧ ∀ H', Same H H' → Q (.bl true) H'
theorem ty_int {K : PySem.W.Frag} {H : Hp} (n : Int) : TyX K H (.int n) (.type "int") := .base (.int n)
theorem kii {K : PySem.W.Frag} : PySem.W.kitOne K (.type "int") (.type "int") = some true := kit_ty (by decide +kernel)
theorem kib {K : PySem.W.Frag} : PySem.W.kitOne K (.type "int") (.type "bool") = some false := kit_ty (by decide +kernel)
theorem ty_lst {K : PySem.W.Frag} {H : Hp} {a : Addr} {xs : List V} (h : H a = some (.lst xs)) : TyX K H (.ref a) (.type "list") := .base (.lst h)
section
variable {P : Program} {w : World} {K : PySem.W.Frag} {mg : Str → Option Value} {base : Heap} {aS a1 a2 : Addr} {f : Addr} {fd : FuncData}
abbrev s_is_integer : Stmt := top 3
abbrev N_is_integer : List Str := ["value"]
theorem sc_is_integer : FnScope N_is_integer ["value"] (defScope s_is_integer) := ⟨rfl, rfl, rfl, by decide +kernel, rfl, by decide +kernel, by decide +kernel⟩
theorem ok_is_integer (F : Fun K "is_integer" "is_integer" s_is_integer f fd) (T : Txt K mg aS a1 a2) : FnOk P w K mg base CX0 1 f fd ["value"] spIsInt := by
  refine F.ok sc_is_integer (fun vs H Q E h => ?_) (fun cdv A outer s H vs Q E hr h => ?_)
  · obtain ⟨b, rfl, _⟩ := h
    rfl
  obtain ⟨n, rfl, q⟩ := h
  refine ⟨_, (pss_one (ps_ret (pe_and (pe_callB (kIsi K rfl) rfl T.b_isinstance bt_isinstance (pa_cons (pv 0) (pa_cons (pTy rfl T.b_int bt_int) pa_nil))) (pe_one (pe_not (pe_callB (kIsi K rfl) rfl T.b_isinstance bt_isinstance (pa_cons (pv 0) (pa_cons (pTy rfl T.b_bool bt_bool) pa_nil)))))))), ?_⟩
  exact ⟨_, rfl, _, _, _, _, _, rfl, .ty _, ty_int _, kii, _, rfl, iteT ⟨_, rfl, _, _, _, _, _, rfl, .ty _, ty_int _, kib, _, rfl, q⟩⟩
abbrev s_is_count : Stmt := top 4
abbrev N_is_count : List Str := ["value"]
theorem sc_is_count : FnScope N_is_count ["value"] (defScope s_is_count) := ⟨rfl, rfl, rfl, by decide +kernel, rfl, by decide +kernel, by decide +kernel⟩
theorem ok_is_count (F : Fun K "is_count" "is_count" s_is_count f fd) (T : Txt K mg aS a1 a2) (c_is_integer : C8.Cal P w K mg base 1 "is_integer" spIsInt []) : FnOk P w K mg base CX0 2 f fd ["value"] spIsCount := by
  refine F.ok sc_is_count (fun vs H Q E h => ?_) (fun cdv A outer s H vs Q E hr h => ?_)
  · obtain ⟨b, rfl, _⟩ := h
    rfl
  obtain ⟨n, rfl, q⟩ := h
  refine ⟨_, (pss_one (ps_ret (pe_and (C8.pe_c c_is_integer hr (by decide) rfl (pa_cons (pv 0) pa_nil)) (pe_one (pe_cmpR op_ge (pv 0) pe_int (nomark _)))))), ?_⟩
  exact ⟨_, rfl, n, rfl, _, rfl, iteT ⟨_, rfl, _, _, rfl, rfl, q⟩⟩
abbrev s_is_below : Stmt := top 5
abbrev N_is_below : List Str := ["value", "limit"]
theorem sc_is_below : FnScope N_is_below ["value", "limit"] (defScope s_is_below) := ⟨rfl, rfl, rfl, by decide +kernel, rfl, by decide +kernel, by decide +kernel⟩
theorem ok_is_below (F : Fun K "is_below" "is_below" s_is_below f fd) (T : Txt K mg aS a1 a2) (c_is_count : C8.Cal P w K mg base 2 "is_count" spIsCount []) : FnOk P w K mg base CX0 3 f fd ["value", "limit"] spIsBelow := by
  refine F.ok sc_is_below (fun vs H Q E h => ?_) (fun cdv A outer s H vs Q E hr h => ?_)
  · obtain ⟨b, m, rfl, _⟩ := h
    rfl
  obtain ⟨n, m, rfl, h0, q⟩ := h
  refine ⟨_, (pss_one (ps_ret (pe_and (C8.pe_c c_is_count hr (by decide) rfl (pa_cons (pv 0) pa_nil)) (pe_one (pe_cmpR op_lt (pv 0) (pv 1) (nomark _)))))), ?_⟩
  exact ⟨_, rfl, n, rfl, _, rfl, iteTd (by simpa using h0) ⟨_, rfl, _, rfl, _, _, rfl, rfl, q⟩⟩
abbrev s_is_list : Stmt := top 7
abbrev N_is_list : List Str := ["value"]
theorem sc_is_list : FnScope N_is_list ["value"] (defScope s_is_list) := ⟨rfl, rfl, rfl, by decide +kernel, rfl, by decide +kernel, by decide +kernel⟩
theorem ok_is_list (F : Fun K "is_list" "is_list" s_is_list f fd) (T : Txt K mg aS a1 a2) : FnOk P w K mg base CX0 1 f fd ["value"] spIsList := by
  refine F.ok sc_is_list (fun vs H Q E h => ?_) (fun cdv A outer s H vs Q E hr h => ?_)
  · obtain ⟨L, xs, rfl, _⟩ := h
    rfl
  obtain ⟨L, xs, rfl, hL, q⟩ := h
  refine ⟨_, (pss_one (ps_ret (pe_callB (kIsiT K rfl) rfl T.b_isinstance bt_isinstance (pa_cons (pv 0) (pa_cons (pe_tup (pa_cons (pTy rfl T.b_list bt_list) (pa_cons (pTy rfl T.b_tuple bt_tuple) pa_nil))) pa_nil))))), ?_⟩
  refine ⟨_, rfl, sz rfl, fun p hp => ⟨_, p, _, _, _, true, rfl, upd_same, .cons (.ty _) (.cons (.ty _) .nil), ty_lst (same_new hp _ _ _ hL), ?_, q _ (same_new hp _)⟩⟩
  exact kitAny_cons (b := true) (kit_ty (by decide +kernel)) (fun z => nomatch z) (fun _ => rfl)
abbrev s_is_row : Stmt := top 31
abbrev N_is_row : List Str := ["value", "outs", "many", "text"]
theorem sc_is_row : FnScope N_is_row ["value", "outs", "many"] (defScope s_is_row) := ⟨rfl, rfl, rfl, by decide +kernel, rfl, by decide +kernel, by decide +kernel⟩
theorem ok_is_row (F : Fun K "is_row" "is_row" s_is_row f fd) (T : Txt K mg aS a1 a2) (c_is_integer : C8.Cal P w K mg base 1 "is_integer" spIsInt []) (c_is_text_of : C8.Cal P w K mg base 2 "is_text_of" spIsTextOf []) (c_is_below : C8.Cal P w K mg base 3 "is_below" spIsBelow []) : FnOk P w K mg base CX0 4 f fd ["value", "outs", "many"] spIsRow := by
  refine F.ok sc_is_row (fun vs H Q E h => ?_) (fun cdv A outer s H vs Q E hr h => ?_)
  · obtain ⟨v, r, o, m, rfl, _⟩ := h
    rfl
  obtain ⟨v, r, outs, many, rfl, ⟨a, g, rfl, ha, hg⟩, ⟨r1, r2, r3, r4, r5⟩, ho2, q⟩ := h
  refine ⟨_, (pss_cons (ps_if (PW.pt (pw_or (pt_not (pt_val (pe_callB (kIsi K rfl) rfl T.b_isinstance bt_isinstance (pa_cons (pv 0) (pa_cons (pTy rfl T.b_tuple bt_tuple) pa_nil))))) (pw_or (pt_cmpR op_ne (pe_callB (kLen K rfl) rfl T.b_len bt_len (pa_cons (pv 0) pa_nil)) pe_int (nomark _)) (pw_or (pt_not (pt_val (pe_callB (kIsi K rfl) rfl T.b_isinstance bt_isinstance (pa_cons (pe_ix (kIxT K rfl) (pv 0) pe_int (fun _ _ => rfl)) (pa_cons (pTy rfl T.b_tuple bt_tuple) pa_nil))))) (pw_or1 (pt_cmpR op_ne (pe_callB (kLen K rfl) rfl T.b_len bt_len (pa_cons (pe_ix (kIxT K rfl) (pv 0) pe_int (fun _ _ => rfl)) pa_nil)) (pv 1) (nomark _)))))))
        (pss_one (ps_ret pe_bl))
        pss_nil)
        (pss_cons (ps_if (PW.pt (pw_or (pt_not (pt_val (pe_callB (kAll K rfl rfl) rfl T.b_all bt_all (pa_cons (pe_lc (own := [("text", 3)]) rfl sc_is_row.nd (kTup K rfl (pe_ix (kIxT K rfl) (pv 0) pe_int (fun _ _ => rfl))) (blkOk_by (N := N_is_row) (sc := defScope s_is_row) (by decide +kernel)) (fun _ _ _ _ _ => (pg_name (i := 3) sc_is_row.nd rfl (Or.inl rfl))) (fun _ _ _ _ _ => pts_nil) (fun _ _ _ _ _ => (C8.pe_c c_is_text_of hr (by decide) rfl (pa_cons (pv 3) (pa_cons (C8.pe_gc rfl T.g_MOST_GIVEN) pa_nil))))) pa_nil)))) (pw_or1 (pt_not (pt_val (C8.pe_c c_is_below hr (by decide) rfl (pa_cons (pe_ix (kIxT K rfl) (pv 0) pe_int (fun _ _ => rfl)) (pa_cons (pv 2) pa_nil))))))))
        (pss_one (ps_ret pe_bl))
        pss_nil)
        (pss_one (ps_ret (pe_and (C8.pe_c c_is_integer hr (by decide) rfl (pa_cons (pe_ix (kIxT K rfl) (pv 0) pe_int (fun _ _ => rfl)) pa_nil)) (pe_one (pe_chain op_le op_le pe_int (pe_ix (kIxT K rfl) (pv 0) pe_int (fun _ _ => rfl)) (C8.pe_gc rfl T.g_MOST_TICKS)))))))), ?_⟩
  refine ⟨_, rfl, _, _, _, _, _, rfl, .ty _, ty_tup ha, ktt, _, rfl, iteF ⟨_, rfl, _, _, rfl, .inr (SqT.of ha), rfl, _, rfl, iteFd (by rw [dec_int]; rfl) ⟨_, rfl, _, _, _, _, rfl, rfl, SqT.of ha, rfl, _, _, _, _, _, rfl, .ty _, ty_tup hg, ktt, _, rfl, iteF ⟨_, rfl, _, _, _, _, rfl, rfl, SqT.of ha, rfl, _, _, rfl, .inr (SqT.of hg), _, rfl, rfl, _, rfl, iteFd (by rw [dec_int, List.length_map, r1]; simp) ?_⟩⟩⟩⟩
  refine ⟨_, rfl, _, _, _, _, rfl, rfl, SqT.of ha, rfl, _, rfl, ⟨_, SqT.of hg⟩, fun D hD => lc_it walk_tup (fun i H' => Same H H' ∧ H' D = some (.lst (List.replicate i (.bl true)))) ⟨same_new hD _, upd_same⟩ (fun i H' _ z => SqT.of (z.1 _ _ hg)) ?_ ?_⟩
  · rintro i x H1 H2 hi ⟨sm, hd⟩ ⟨rfl, hx⟩
    obtain ⟨b, hb, rfl⟩ := List.getElem?_map_some hx
    have hb2 := r2 b (List.mem_of_getElem? hb)
    have hil := lt_len hb
    refine ⟨rfl, tyI ⟨_, rfl, b, _, rfl, by omega, fun H3 s3 => ?_⟩⟩
    rw [decide_eq_true (by omega)]
    refine ⟨_, s3 _ _ hd, ?_, same_at (sm.trans' s3) hD, ?_⟩
    · rw [List.length_replicate]
      exact Nat.lt_of_lt_of_le (show i < 100000 by omega) (by decide)
    · rw [upd_same, List.replicate_succ']
  · rintro H1 ⟨sm, hd⟩
    refine ⟨_, List.replicate _ true, rfl, SqL.of (by rw [hd, List.map_replicate]), _, rfl, ?_⟩
    rw [show ∀ m, (List.replicate m true).all id = true from fun m => by simp]
    have ha1 := sm _ _ ha
    refine iteF ⟨_, rfl, _, _, _, _, rfl, rfl, SqT.of ha1, rfl, _, rfl, _, _, rfl, by omega, _, rfl, ?_⟩
    rw [decide_eq_true (by omega)]
    refine iteF ⟨_, rfl, _, _, _, _, rfl, rfl, SqT.of ha1, rfl, _, rfl, _, rfl, iteT ?_⟩
    refine ⟨_, rfl, _, _, _, _, rfl, rfl, SqT.of ha1, rfl, _, _, rfl, rfl, _, rfl, iteTd (by simp; omega) ⟨_, _, rfl, rfl, ?_⟩⟩
    show Q (.bl (decide ((r.ticks : Int) ≤ 9))) H1
    rw [decide_eq_true (by omega)]
    exact q _ sm
end
/-- what the text says of LINES -/
structure Lin (K : PySem.W.Frag) (w : World) (mg : Str → Option Value) (aL : Addr) : Prop where
  g_LINES : ∃ u, mg "LINES" = some u ∧ RelV (.ref aL) u
  kd : ∃ es n, KDict K w aL es n
  at_ : ∀ r : Rd, ∃ u, PySem.W.nsIn K aL r.s = some (some u)
def rInL (K : PySem.W.Frag) (aL : Addr) : R2 := fun x y H Q => ∃ (z : Str) (r : Option Value), x = .str z ∧ y = .ref aL ∧ PySem.W.nsIn K aL z = some r ∧ Q (.bl r.isSome) H
theorem kInL {X : Cx} (K : PySem.W.Frag) (hK : X.K = K) {w : World} {mg : Str → Option Value} {aL : Addr} (hw : X.w = w) (L : Lin K w mg aL) : OpR X (compareOp .In) (rInL K aL) := by
  subst hK
  subst hw
  obtain ⟨es, n, kd⟩ := L.kd
  exact op_in_kd kd
section
variable {P : Program} {w : World} {K : PySem.W.Frag} {mg : Str → Option Value} {base : Heap} {aS a1 a2 aL : Addr} {f : Addr} {fd : FuncData}
abbrev s_are_read : Stmt := top 32
abbrev N_are_read : List Str := ["value", "ins"]
theorem sc_are_read : FnScope N_are_read ["value", "ins"] (defScope s_are_read) := ⟨rfl, rfl, rfl, by decide +kernel, rfl, by decide +kernel, by decide +kernel⟩
theorem ok_are_read (F : Fun K "are_read" "are_read" s_are_read f fd) (T : Txt K mg aS a1 a2) (L : Lin K w mg aL) : FnOk P w K mg base CX0 1 f fd ["value", "ins"] spAreRead := by
  refine F.ok sc_are_read (fun vs H Q E h => ?_) (fun cdv A outer s H vs Q E hr h => ?_)
  · obtain ⟨r, i, rfl, _⟩ := h
    rfl
  obtain ⟨r, ins, rfl, ho, q⟩ := h
  refine ⟨_, (pss_one (ps_ret (pe_and (pe_callB (kIsi K rfl) rfl T.b_isinstance bt_isinstance (pa_cons (pv 0) (pa_cons (pTy rfl T.b_str bt_str) pa_nil))) (pe_and (pe_cmpR (kInL K rfl rfl L) (pv 0) (C8.pe_gc rfl L.g_LINES) rfl) (pe_one (pe_or (pe_cmpR op_eq (pv 0) pe_str (nomark _)) (pe_one (pe_cmpR op_eq (pv 1) pe_int (nomark _))))))))), ?_⟩
  obtain ⟨u, hu⟩ := L.at_ r
  refine ⟨_, rfl, _, _, _, _, _, rfl, .ty _, ty_str _, kss, _, rfl, iteT ⟨_, rfl, _, _, rfl, rfl, hu, _, rfl, iteT ⟨_, rfl, rfl, _, rfl, ?_⟩⟩⟩
  rcases ho with rfl | rfl
  · refine iteTd (by decide +kernel) ?_
    exact q
  · cases r with
    | one =>
      refine iteTd (by decide +kernel) ?_
      exact q
    | two => exact iteFd (by decide +kernel) ⟨_, rfl, rfl, q⟩
    | both => exact iteFd (by decide +kernel) ⟨_, rfl, rfl, q⟩
abbrev s_is_standing_told : Stmt := top 33
abbrev N_is_standing_told : List Str := ["value", "ins", "outs", "many", "many_rows", "row"]
theorem sc_is_standing_told : FnScope N_is_standing_told ["value", "ins", "outs", "many"] (defScope s_is_standing_told) := ⟨rfl, rfl, rfl, by decide +kernel, rfl, by decide +kernel, by decide +kernel⟩
theorem ok_is_standing_told (F : Fun K "is_standing_told" "is_standing_told" s_is_standing_told f fd) (T : Txt K mg aS a1 a2) (c_are_read : C8.Cal P w K mg base 1 "are_read" spAreRead []) (c_is_list : C8.Cal P w K mg base 1 "is_list" spIsList []) (c_is_row : C8.Cal P w K mg base 4 "is_row" spIsRow []) : FnOk P w K mg base CX0 5 f fd ["value", "ins", "outs", "many"] spIsTold := by
  refine F.ok sc_is_standing_told (fun vs H Q E h => ?_) (fun cdv A outer s H vs Q E hr h => ?_)
  · obtain ⟨v, r, i, o, m, rfl, _⟩ := h
    rfl
  obtain ⟨v, sg, ins, outs, many, rfl, ⟨a, l, ws, rfl, ha, hl, pr⟩, ⟨o1, o2, o3⟩, ho2, q⟩ := h
  refine ⟨_, (pss_cons (ps_if (PW.pt (pw_or (pt_not (pt_val (pe_callB (kIsi K rfl) rfl T.b_isinstance bt_isinstance (pa_cons (pv 0) (pa_cons (pTy rfl T.b_tuple bt_tuple) pa_nil))))) (pw_or (pt_cmpR op_ne (pe_callB (kLen K rfl) rfl T.b_len bt_len (pa_cons (pv 0) pa_nil)) pe_int (nomark _)) (pw_or (pt_not (pt_val (C8.pe_c c_are_read hr (by decide) rfl (pa_cons (pe_ix (kIxT K rfl) (pv 0) pe_int (fun _ _ => rfl)) (pa_cons (pv 1) pa_nil))))) (pw_or1 (pt_not (pt_val (C8.pe_c c_is_list hr (by decide) rfl (pa_cons (pe_ix (kIxT K rfl) (pv 0) pe_int (fun _ _ => rfl)) pa_nil)))))))))
        (pss_one (ps_ret pe_bl))
        pss_nil)
        (pss_cons (ps_set (i := 4) sc_is_standing_told.nd rfl (Or.inl rfl) (pe_ifExp (pt_cmpR op_eq (pe_ix (kIxT K rfl) (pv 0) pe_int (fun _ _ => rfl)) pe_str (nomark _)) pe_int pe_int))
        (pss_one (ps_ret (pe_and (pe_cmpR op_eq (pe_callB (kLen K rfl) rfl T.b_len bt_len (pa_cons (pe_ix (kIxT K rfl) (pv 0) pe_int (fun _ _ => rfl)) pa_nil)) (pv 4) (nomark _)) (pe_one (pe_callB (kAll K rfl rfl) rfl T.b_all bt_all (pa_cons (pe_lc (own := [("row", 5)]) rfl sc_is_standing_told.nd (kList K rfl (pe_ix (kIxT K rfl) (pv 0) pe_int (fun _ _ => rfl))) (blkOk_by (N := N_is_standing_told) (sc := defScope s_is_standing_told) (by decide +kernel)) (fun _ _ _ _ _ => (pg_name (i := 5) sc_is_standing_told.nd rfl (Or.inl rfl))) (fun _ _ _ _ _ => pts_nil) (fun _ _ _ _ _ => (C8.pe_c c_is_row hr (by decide) rfl (pa_cons (pv 5) (pa_cons (pv 2) (pa_cons (pv 3) pa_nil)))))) pa_nil)))))))), ?_⟩
  refine ⟨_, rfl, _, _, _, _, _, rfl, .ty _, ty_tup ha, ktt, _, rfl, iteF ⟨_, rfl, _, _, rfl, .inr (SqT.of ha), rfl, _, rfl, iteFd (by rw [dec_int]; rfl) ⟨_, rfl, _, _, _, _, rfl, rfl, SqT.of ha, rfl, _, rfl, sg.reads, ins, rfl, o1, _, rfl, iteF ⟨_, rfl, _, _, _, _, rfl, rfl, SqT.of ha, rfl, l, _, rfl, hl, fun H1 s1 => ⟨_, rfl, iteF ?_⟩⟩⟩⟩⟩
  have ha1 := s1 _ _ ha
  have hl1 := s1 _ _ hl
  have hwl := paired_len pr
  refine ⟨_, rfl, _, _, _, _, rfl, rfl, SqT.of ha1, rfl, rfl, _, rfl, ?_⟩
  obtain ⟨rd, rows⟩ := sg
  cases rd with
  | one =>
    refine iteFd (by decide +kernel : decide (V.str Rd.one.s = V.str ("12" : Str)) = false) ?_
    refine ⟨_, rfl, _, _, _, _, rfl, rfl, SqT.of ha1, rfl, _, _, rfl, .inl (SqL.of hl1), _, rfl, rfl, _, rfl, iteTd (by rw [dec_int, hwl, o2]; rfl) ?_⟩
    refine ⟨_, rfl, _, _, _, _, rfl, rfl, SqT.of ha1, rfl, _, rfl, ⟨_, SqL.of hl1⟩, fun D hD => lc_it walk_list (fun i H' => Same H1 H' ∧ H' D = some (.lst (List.replicate i (.bl true)))) ⟨same_new hD _, upd_same⟩ (fun i H' _ z => SqL.of (z.1 _ _ hl1)) ?_ ?_⟩
    · rintro i x H2 H3 hi ⟨sm, hd⟩ ⟨rfl, hx⟩
      obtain ⟨r, hr, hxr⟩ := paired_get pr hx
      have hil := lt_len hr
      refine ⟨rfl, tyI ⟨_, rfl, _, rfl, _, rfl, x, r, outs, many, rfl, hxr.keep (Tups.of (s1.trans' sm)), o3 r (List.mem_of_getElem? hr), ho2, fun H4 s4 => ?_⟩⟩
      refine ⟨_, s4 _ _ hd, ?_, same_at (sm.trans' s4) hD, ?_⟩
      · rw [List.length_replicate]
        exact Nat.lt_of_lt_of_le (show i < 100000 by rw [o2] at hil; exact Nat.lt_of_lt_of_le hil (Rd.many_le _)) (by decide)
      · rw [upd_same, List.replicate_succ']
    · rintro H2 ⟨sm, hd⟩
      refine ⟨_, List.replicate _ true, rfl, SqL.of (by rw [hd, List.map_replicate]), ?_⟩
      rw [show ∀ m, (List.replicate m true).all id = true from fun m => by simp]
      exact q _ (s1.trans' sm)
  | two =>
    refine iteFd (by decide +kernel : decide (V.str Rd.two.s = V.str ("12" : Str)) = false) ?_
    refine ⟨_, rfl, _, _, _, _, rfl, rfl, SqT.of ha1, rfl, _, _, rfl, .inl (SqL.of hl1), _, rfl, rfl, _, rfl, iteTd (by rw [dec_int, hwl, o2]; rfl) ?_⟩
    refine ⟨_, rfl, _, _, _, _, rfl, rfl, SqT.of ha1, rfl, _, rfl, ⟨_, SqL.of hl1⟩, fun D hD => lc_it walk_list (fun i H' => Same H1 H' ∧ H' D = some (.lst (List.replicate i (.bl true)))) ⟨same_new hD _, upd_same⟩ (fun i H' _ z => SqL.of (z.1 _ _ hl1)) ?_ ?_⟩
    · rintro i x H2 H3 hi ⟨sm, hd⟩ ⟨rfl, hx⟩
      obtain ⟨r, hr, hxr⟩ := paired_get pr hx
      have hil := lt_len hr
      refine ⟨rfl, tyI ⟨_, rfl, _, rfl, _, rfl, x, r, outs, many, rfl, hxr.keep (Tups.of (s1.trans' sm)), o3 r (List.mem_of_getElem? hr), ho2, fun H4 s4 => ?_⟩⟩
      refine ⟨_, s4 _ _ hd, ?_, same_at (sm.trans' s4) hD, ?_⟩
      · rw [List.length_replicate]
        exact Nat.lt_of_lt_of_le (show i < 100000 by rw [o2] at hil; exact Nat.lt_of_lt_of_le hil (Rd.many_le _)) (by decide)
      · rw [upd_same, List.replicate_succ']
    · rintro H2 ⟨sm, hd⟩
      refine ⟨_, List.replicate _ true, rfl, SqL.of (by rw [hd, List.map_replicate]), ?_⟩
      rw [show ∀ m, (List.replicate m true).all id = true from fun m => by simp]
      exact q _ (s1.trans' sm)
  | both =>
    refine iteTd (by decide +kernel : decide (V.str Rd.both.s = V.str ("12" : Str)) = true) ?_
    refine ⟨_, rfl, _, _, _, _, rfl, rfl, SqT.of ha1, rfl, _, _, rfl, .inl (SqL.of hl1), _, rfl, rfl, _, rfl, iteTd (by rw [dec_int, hwl, o2]; rfl) ?_⟩
    refine ⟨_, rfl, _, _, _, _, rfl, rfl, SqT.of ha1, rfl, _, rfl, ⟨_, SqL.of hl1⟩, fun D hD => lc_it walk_list (fun i H' => Same H1 H' ∧ H' D = some (.lst (List.replicate i (.bl true)))) ⟨same_new hD _, upd_same⟩ (fun i H' _ z => SqL.of (z.1 _ _ hl1)) ?_ ?_⟩
    · rintro i x H2 H3 hi ⟨sm, hd⟩ ⟨rfl, hx⟩
      obtain ⟨r, hr, hxr⟩ := paired_get pr hx
      have hil := lt_len hr
      refine ⟨rfl, tyI ⟨_, rfl, _, rfl, _, rfl, x, r, outs, many, rfl, hxr.keep (Tups.of (s1.trans' sm)), o3 r (List.mem_of_getElem? hr), ho2, fun H4 s4 => ?_⟩⟩
      refine ⟨_, s4 _ _ hd, ?_, same_at (sm.trans' s4) hD, ?_⟩
      · rw [List.length_replicate]
        exact Nat.lt_of_lt_of_le (show i < 100000 by rw [o2] at hil; exact Nat.lt_of_lt_of_le hil (Rd.many_le _)) (by decide)
      · rw [upd_same, List.replicate_succ']
    · rintro H2 ⟨sm, hd⟩
      refine ⟨_, List.replicate _ true, rfl, SqL.of (by rw [hd, List.map_replicate]), ?_⟩
      rw [show ∀ m, (List.replicate m true).all id = true from fun m => by simp]
      exact q _ (s1.trans' sm)
end
end FY


set_option Elab.async false
set_option linter.all false
set_option maxRecDepth 100000
set_option maxHeartbeats 4000000
namespace FY
open PySem L2 FYR
theorem kTupOf {X : Cx} (K : PySem.W.Frag) (hK : X.K = K) : CallR X (.type "tuple") (fun xs H Q => ∃ p ys, xs = [.ref p] ∧ ((SqL K H p ys ∧ ∀ l, H l = none → Q (.ref l) (upd H l (.tup ys))) ∨ (SqT K H p ys ∧ Q (.ref p) H))) := by subst hK; exact call_tuple_of
def sflds (ins outs : Nat) (p : Addr) : List (Str × V) := [("own_ins", .int ins), ("own_outs", .int outs), ("own_standings", .ref p)]
/-- the value is a Station of the class at C -/
def StnA (C : Addr) (H : Hp) (v : V) (t : Stn) : Prop := ∃ a dx p ps, v = .ref a ∧ H a = some (.ins C dx (sflds t.ins t.outs p)) ∧ H p = some (.tup ps) ∧ Paired (SgA H) ps t.stgs
structure StC (K : PySem.W.Frag) (mg : Str → Option Value) (C : Addr) : Prop where
  g_Station : ∃ u, mg "Station" = some u ∧ RelV (.ref C) u
  cl : Cls K C
  nI : NoAttr K C "own_ins"
  nO : NoAttr K C "own_outs"
  nS : NoAttr K C "own_standings"
theorem sgA_all {H H' : Hp} (k : Tups H H') : ∀ {ws : List V} {rs : List Sg}, Paired (SgA H) ws rs → Paired (SgA H') ws rs
  | _, _, .nil => .nil
  | _, _, .cons r q => .cons (r.keep k) (sgA_all k q)
theorem told_all {H H' : Hp} (k : Same H H') : ∀ {ws : List V} {rs : List Sg}, Paired (ToldA H) ws rs → Paired (ToldA H') ws rs
  | _, _, .nil => .nil
  | _, _, .cons r q => .cons (r.same k) (told_all k q)
/-- all but the instance at a -/
def But (a : Addr) (H H' : Hp) : Prop := ∀ b o, b ≠ a → H b = some o → H' b = some o
theorem But.tups {a C dx : Addr} {fs : List (Str × V)} {H H' : Hp} (k : But a H H') (ha : H a = some (.ins C dx fs)) : Tups H H' := fun b xs e => k b _ (fun z => by rw [z, ha] at e; cases e) e
theorem But.lst {a C dx : Addr} {fs : List (Str × V)} {H H' : Hp} (k : But a H H') (ha : H a = some (.ins C dx fs)) {L : Addr} {xs : List V} (e : H L = some (.lst xs)) : H' L = some (.lst xs) := k L _ (fun z => by rw [z, ha] at e; cases e) e
theorem ToldA.but {a C dx : Addr} {fs : List (Str × V)} {H H' : Hp} (k : But a H H') (ha : H a = some (.ins C dx fs)) {v : V} {s : Sg} (h : ToldA H v s) : ToldA H' v s := by
  obtain ⟨b, q, ws, e, h1, h2, p⟩ := h
  exact ⟨b, q, ws, e, k.tups ha _ _ h1, k.lst ha h2, rwA_all (k.tups ha) p⟩
theorem told_but {a C dx : Addr} {fs : List (Str × V)} {H H' : Hp} (k : But a H H') (ha : H a = some (.ins C dx fs)) : ∀ {ws : List V} {rs : List Sg}, Paired (ToldA H) ws rs → Paired (ToldA H') ws rs
  | _, _, .nil => .nil
  | _, _, .cons r q => .cons (r.but k ha) (told_but k ha q)
theorem pf1 (x y : V) : putF "own_outs" y [("own_ins", x)] = ([("own_ins", x), ("own_outs", y)] : List (Str × V)) := by
  show (if ("own_ins" : Str) = "own_outs" then _ else _) = _
  rw [if_neg (by decide +kernel)]
  rfl
theorem pf2 (x y z : V) : putF "own_standings" z [("own_ins", x), ("own_outs", y)] = ([("own_ins", x), ("own_outs", y), ("own_standings", z)] : List (Str × V)) := by
  show (if ("own_ins" : Str) = "own_standings" then _ else (("own_ins" : Str), x) :: (if ("own_outs" : Str) = "own_standings" then _ else _)) = _
  rw [if_neg (by decide +kernel), if_neg (by decide +kernel)]
  rfl
def spStInit (C : Addr) : Sp := fun vs H Q _ => ∃ (a L dx : Addr) (ws : List V) (t : Stn), vs = [.ref a, .int t.ins, .int t.outs, .ref L] ∧ H a = some (.ins C dx []) ∧ H L = some (.lst ws) ∧ Paired (ToldA H) ws t.stgs ∧ t.ok ∧ ∀ H', (∀ b o, b ≠ a → H b = some o → H' b = some o) → StnA C H' (.ref a) t → Q .non H'
section
variable {P : Program} {w : World} {K : PySem.W.Frag} {mg : Str → Option Value} {base : Heap} {aS a1 a2 aL : Addr} {f : Addr} {fd : FuncData} {C : Addr}
abbrev s_Station___init__ : Stmt := inClass (top 35) 0
abbrev N_Station___init__ : List Str := ["self", "ins", "outs", "standings", "position", "told", "reads", "rows"]
theorem sc_Station___init__ : FnScope N_Station___init__ ["self", "ins", "outs", "standings"] (defScope s_Station___init__) := ⟨rfl, rfl, rfl, by decide +kernel, rfl, by decide +kernel, by decide +kernel⟩
theorem ok_Station_init (F : Fun K "__init__" "Station.__init__" s_Station___init__ f fd) (T : Txt K mg aS a1 a2) (S : StC K mg C) (c_is_integer : C8.Cal P w K mg base 1 "is_integer" spIsInt []) (c_is_list : C8.Cal P w K mg base 1 "is_list" spIsList []) (c_is_standing_told : C8.Cal P w K mg base 5 "is_standing_told" spIsTold []) : FnOk P w K mg base CX0 6 f fd ["self", "ins", "outs", "standings"] (spStInit C) := by
  refine F.ok sc_Station___init__ (fun vs H Q E h => ?_) (fun cdv A outer s H vs Q E hr h => ?_)
  · obtain ⟨a, L, dx, ws, t, rfl, _⟩ := h
    rfl
  obtain ⟨a, L, dx, ws, t, rfl, ha, hL, pr, tok, q⟩ := h
  have i1 := tok.i1
  have i2 := tok.i2
  have o1 := tok.o1
  have o2 := tok.o2
  have m1 := tok.m1
  have m2 := tok.m2
  have hwl := paired_len pr
  refine ⟨_, (pss_cons (ps_if (PW.pt (pw_or (pt_not (pt_val (C8.pe_c c_is_integer hr (by decide) rfl (pa_cons (pv 1) pa_nil)))) (pw_or1 (pt_not (pt_chain op_le op_le pe_int (pv 1) pe_int)))))
        (pss_one ps_never)
        pss_nil)
        (pss_cons (ps_if (PW.pt (pw_or (pt_not (pt_val (C8.pe_c c_is_integer hr (by decide) rfl (pa_cons (pv 2) pa_nil)))) (pw_or1 (pt_not (pt_chain op_le op_le pe_int (pv 2) pe_int)))))
        (pss_one ps_never)
        pss_nil)
        (pss_cons (ps_if (PW.pt (pw_or (pt_not (pt_val (C8.pe_c c_is_list hr (by decide) rfl (pa_cons (pv 3) pa_nil)))) (pw_or1 (pt_not (pt_chain op_le op_le pe_int (pe_callB (kLen K rfl) rfl T.b_len bt_len (pa_cons (pv 3) pa_nil)) (C8.pe_gc rfl T.g_MOST_STANDINGS))))))
        (pss_one ps_never)
        pss_nil)
        (pss_cons (ps_for PassesOwn.never rfl (kEnum K rfl rfl T.b_enumerate (pa_cons (pv 3) pa_nil)) (kTupG (n := 2) K rfl rfl (pgs_cons (pg_name (i := 4) sc_Station___init__.nd rfl (Or.inl rfl)) (pgs_cons (pg_name (i := 5) sc_Station___init__.nd rfl (Or.inl rfl)) pgs_nil)))
        (pss_one (ps_if (pt_not (pt_val (C8.pe_c c_is_standing_told hr (by decide) rfl (pa_cons (pv 5) (pa_cons (pv 1) (pa_cons (pv 2) (pa_cons (pe_callB (kLen K rfl) rfl T.b_len bt_len (pa_cons (pv 3) pa_nil)) pa_nil)))))))
        (pss_one ps_never)
        pss_nil)))
        (pss_cons (kSetF K rfl (pv 0) (pv 1))
        (pss_cons (kSetF K rfl (pv 0) (pv 2))
        (pss_one (kSetF K rfl (pv 0) (pe_callTy (kTupOf K rfl) rfl T.b_tuple bt_tuple (pa_cons (pe_lc (own := [("reads", 6), ("rows", 7)]) rfl sc_Station___init__.nd (kList K rfl (pv 3)) (blkOk_by (N := N_Station___init__) (sc := defScope s_Station___init__) (by decide +kernel)) (fun _ _ _ _ _ => (kTupG (n := 2) K rfl rfl (pgs_cons (pg_name (i := 6) sc_Station___init__.nd rfl (Or.inl rfl)) (pgs_cons (pg_name (i := 7) sc_Station___init__.nd rfl (Or.inl rfl)) pgs_nil)))) (fun _ _ _ _ _ => pts_nil) (fun _ _ _ _ _ => (pe_tup (pa_cons (pv 6) (pa_cons (pe_callTy (kTupOf K rfl) rfl T.b_tuple bt_tuple (pa_cons (pv 7) pa_nil)) pa_nil))))) pa_nil)))))))))), ?_⟩
  refine ⟨_, rfl, _, rfl, _, rfl, iteF ⟨_, rfl, _, _, rfl, rfl, _, rfl, iteTd (by simp; omega) ⟨_, _, rfl, rfl, _, rfl, iteFd (by simp; omega) ?_⟩⟩⟩
  refine ⟨_, rfl, _, rfl, _, rfl, iteF ⟨_, rfl, _, _, rfl, rfl, _, rfl, iteTd (by simp; omega) ⟨_, _, rfl, rfl, _, rfl, iteFd (by simp; omega) ?_⟩⟩⟩
  refine ⟨_, rfl, L, _, rfl, hL, fun H1 s1 => ⟨_, rfl, iteF ⟨_, rfl, _, _, rfl, .inl (SqL.of (s1 _ _ hL)), _, _, rfl, rfl, _, rfl, iteTd (by simp; omega) ⟨_, _, rfl, rfl, _, rfl, iteFd (by simp; omega) ?_⟩⟩⟩⟩
  have hL1 := s1 _ _ hL
  refine ⟨_, rfl, _, _, rfl, SqL.of hL1, for_it walk_enum (fun i σ H' => ∃ z4 z5 : Option V, σ = [some (.ref a), some (.int t.ins), some (.int t.outs), some (.ref L), z4, z5, none, none] ∧ Same H H') ⟨_, _, rfl, s1⟩ (fun i σ H' _ ⟨_, _, _, e⟩ => SqL.of (e _ _ hL)) ?_ ?_⟩
  · rintro i x σ H2 H3 hi ⟨z4, z5, rfl, sm⟩ ⟨T0, p1, p2, rfl, hT0, rfl, hp1, hp2⟩
    obtain ⟨sg, hsg, hx⟩ := paired_get pr hp2
    have k0 := same_new hT0 (.tup [p1, p2])
    refine ⟨_, _, rfl, SqT.of upd_same, rfl, _, _, rfl, _, _, rfl, rfl, ?_⟩
    refine ⟨_, rfl, _, rfl, _, rfl, _, rfl, _, _, rfl, .inl (SqL.of (k0 _ _ (sm _ _ hL))), p2, sg, t.ins, t.outs, ws.length, rfl, hx.same (sm.trans' k0), ?_, o2, fun H4 s4 => ⟨_, rfl, iteF ⟨_, _, rfl, (sm.trans' k0).trans' s4⟩⟩⟩
    have := tok.sg sg (List.mem_of_getElem? hsg)
    rw [hwl]
    exact this
  · rintro σ H2 ⟨z4, z5, rfl, sm⟩
    have ha2 := sm _ _ ha
    have hLa : L ≠ a := fun z => by rw [z, ha] at hL; cases hL
    refine ⟨_, rfl, _, rfl, a, C, dx, _, rfl, ha2, S.cl, S.nI, by decide, ?_⟩
    refine ⟨_, rfl, _, rfl, a, C, dx, [("own_ins", .int t.ins)], rfl, upd_same, S.cl, S.nO, Nat.lt_of_lt_of_le (Nat.lt_succ_self 1) (by decide : 2 ≤ 1000), ?_⟩
    rw [pf1]
    obtain ⟨H4, hH4⟩ : ∃ H4, H4 = upd (upd H2 a (.ins C dx (putF "own_ins" (.int t.ins) []))) a (.ins C dx [("own_ins", .int t.ins), ("own_outs", .int t.outs)]) := ⟨_, rfl⟩
    have ha4 : H4 a = some (.ins C dx [("own_ins", .int t.ins), ("own_outs", .int t.outs)]) := by rw [hH4, upd_same]
    have b4 : But a H H4 := fun b o hb e => by rw [hH4, upd_ne hb, upd_ne hb]; exact sm _ _ e
    rw [← hH4]
    clear hH4
    have hL4 := b4.lst ha hL
    have pr4 := told_but b4 ha pr
    refine ⟨_, rfl, _, rfl, ⟨_, SqL.of hL4⟩, fun D hD => lc_it walk_list (fun i H' => Same H4 H' ∧ ∃ us, H' D = some (.lst us) ∧ Paired (SgA H') us (t.stgs.take i)) ⟨same_new hD _, [], upd_same, .nil⟩ (fun i H' _ z => SqL.of (z.1 _ _ hL4)) ?_ ?_⟩
    · rintro i x H5 H6 hi ⟨sm5, us, hd, pu⟩ ⟨rfl, hx⟩
      obtain ⟨sg, hsg, hxs⟩ := paired_get pr4 hx
      obtain ⟨b, l, rs, rfl, hb, hl, prs⟩ := hxs.same sm5
      have hlu := paired_len pu
      have hil := lt_len hsg
      refine ⟨_, _, rfl, SqT.of hb, rfl, _, _, rfl, _, _, rfl, rfl, rfl, tyI ⟨_, rfl, _, rfl, _, _, rfl, .inl ⟨SqL.of hl, fun p1 hp1 => ⟨sz rfl, fun p2 hp2 => ?_⟩⟩⟩⟩
      have k1 := same_new hp1 (.tup rs)
      have k2 := same_new hp2 (.tup [.str sg.reads.s, .ref p1])
      have hd2 := k2 _ _ (k1 _ _ hd)
      have tu : Tups H6 (upd (upd (upd H6 p1 (.tup rs)) p2 (.tup [.str sg.reads.s, .ref p1])) D (.lst (us ++ [.ref p2]))) := (Tups.of (k1.trans' k2)).trans (tups_at hd2)
      refine ⟨_, hd2, ?_, same_at ((sm5.trans' k1).trans' k2) hD, us ++ [.ref p2], upd_same, ?_⟩
      · rw [List.length_take] at hlu
        exact Nat.lt_of_lt_of_le (show us.length < 100000 by omega) (by decide)
      · rw [List.take_succ, hsg]
        refine paired_app (sgA_all tu pu) (.cons ⟨p2, p1, rs, rfl, tups_at hd2 _ _ upd_same, tups_at hd2 _ _ (k2 _ _ upd_same), rwA_all tu prs⟩ .nil)
    · rintro H5 ⟨sm5, us, hd, pu⟩
      rw [hwl, List.take_of_length_le (Nat.le_refl _)] at pu
      refine ⟨_, _, rfl, .inl ⟨SqL.of hd, fun p hp => ?_⟩⟩
      have kp := same_new hp (.tup us)
      refine ⟨_, rfl, a, C, dx, _, rfl, kp _ _ (sm5 _ _ ha4), S.cl, S.nS, Nat.lt_of_lt_of_le (Nat.lt_succ_self 2) (by decide : 3 ≤ 1000), ?_⟩
      rw [pf2]
      have haK : upd H5 p (.tup us) a = some (.ins C dx [("own_ins", .int t.ins), ("own_outs", .int t.outs)]) := kp _ _ (sm5 _ _ ha4)
      have bK : But a (upd H5 p (.tup us)) (upd (upd H5 p (.tup us)) a (.ins C dx [("own_ins", .int t.ins), ("own_outs", .int t.outs), ("own_standings", .ref p)])) := fun b o hb e => by rw [upd_ne hb]; exact e
      refine q _ (fun b o hb e => bK b o hb (kp _ _ (sm5 _ _ (b4 b o hb e)))) ⟨a, dx, p, us, rfl, upd_same, bK.tups haK _ _ upd_same, sgA_all ((Tups.of kp).trans (bK.tups haK)) pu⟩
end
end FY


set_option Elab.async false
set_option linter.all false
set_option maxRecDepth 100000
set_option maxHeartbeats 4000000
namespace FY
open PySem L2 FYR
theorem kStar {X : Cx} (K : PySem.W.Frag) (hK : X.K = K) {e : Expr} {es : List Expr} {p : Pos} {te : TE} {t : L2.TA} (he : PE X e te) (hr : PA X es t) (hs : starEach (.Starred e p :: es) X.env = (true, eval e X.env) :: starEach es X.env := by rfl) : PA X (.Starred e p :: es) (StX.tStar K te t) := by subst hK; exact StX.pa_star he hr hs
abbrev Pipe := Nat × Nat × Nat × Nat
def PipeA (H : Hp) (v : V) (p : Pipe) : Prop := ∃ t, v = .ref t ∧ H t = some (.tup [.int p.1, .int p.2.1, .int p.2.2.1, .int p.2.2.2])
abbrev Ln := Option (Nat × Nat)
def LnA (H : Hp) (v : V) : Ln → Prop
  | none => v = .non
  | some l => ∃ t, v = .ref t ∧ H t = some (.tup [.int l.1, .int l.2])
def pipesOf (n : Nat) : Nat → List Ln → List Pipe
  | _, [] => []
  | p, none :: r => pipesOf n (p + 1) r
  | p, some l :: r => (l.1, l.2, n, p) :: pipesOf n (p + 1) r
theorem pipesOf_app (n : Nat) : ∀ (p : Nat) (a b : List Ln), pipesOf n p (a ++ b) = pipesOf n p a ++ pipesOf n (p + a.length) b
  | p, [], b => by simp [pipesOf]
  | p, none :: r, b => by simp [pipesOf, pipesOf_app n (p + 1) r b]; congr 1; omega
  | p, some l :: r, b => by simp [pipesOf, pipesOf_app n (p + 1) r b]; congr 1; omega
theorem StnA.but2 {C : Addr} {H H' : Hp} (k : ∀ b o, (∀ ps, o ≠ .tbl ps) → (∀ xs, o ≠ .lst xs) → H b = some o → H' b = some o) {v : V} {t : Stn} (h : StnA C H v t) : StnA C H' v t := by
  obtain ⟨a, dx, p, ps, e, h1, h2, pr⟩ := h
  exact ⟨a, dx, p, ps, e, k _ _ (fun _ z => nomatch z) (fun _ z => nomatch z) h1, k _ _ (fun _ z => nomatch z) (fun _ z => nomatch z) h2, sgA_all (fun b xs e => k b _ (fun _ z => nomatch z) (fun _ z => nomatch z) e) pr⟩
/-- all but lists and tables stay -/
def NL (H H' : Hp) : Prop := ∀ b o, (∀ ps, o ≠ .tbl ps) → (∀ xs, o ≠ .lst xs) → H b = some o → H' b = some o
theorem NL.of {H H' : Hp} (s : Same H H') : NL H H' := fun b o _ _ e => s b o e
theorem NL.trans {H H1 H2 : Hp} (a : NL H H1) (b : NL H1 H2) : NL H H2 := fun x o t n e => b x o t n (a x o t n e)
theorem NL.tups {H H' : Hp} (a : NL H H') : Tups H H' := fun b xs e => a b _ (fun _ z => nomatch z) (fun _ z => nomatch z) e
theorem NL.at {H : Hp} {L : Addr} {xs : List V} {o : HO} (h : H L = some (.lst xs)) : NL H (upd H L o) := fun b u _ n e => by
  rw [upd_ne (fun z => by rw [z, h] at e; exact n xs (Option.some.inj e).symm)]
  exact e
theorem stn_all {C : Addr} {H H' : Hp} (k : NL H H') : ∀ {vs : List V} {ts : List Stn}, Paired (StnA C H) vs ts → Paired (StnA C H') vs ts
  | _, _, .nil => .nil
  | _, _, .cons r q => .cons (r.but2 k) (stn_all k q)
theorem pipe_all {H H' : Hp} (k : Tups H H') : ∀ {vs : List V} {ts : List Pipe}, Paired (PipeA H) vs ts → Paired (PipeA H') vs ts
  | _, _, .nil => .nil
  | _, _, .cons ⟨t, e, h⟩ q => .cons ⟨t, e, k _ _ h⟩ (pipe_all k q)
theorem LnA.keep {H H' : Hp} (k : Tups H H') {v : V} : ∀ {l : Ln}, LnA H v l → LnA H' v l
  | none, h => h
  | some _, ⟨t, e, h⟩ => ⟨t, e, k _ _ h⟩
def dflds (S Pp : Addr) : List (Str × V) := [("own_stations", .ref S), ("own_pipes", .ref Pp)]
structure DrA (CD C : Addr) (H : Hp) (d S Pp : Addr) (ts : List Stn) (ps : List Pipe) : Prop where
  ob : ∃ dx, H d = some (.ins CD dx (dflds S Pp))
  st : ∃ vs, H S = some (.lst vs) ∧ Paired (StnA C H) vs ts
  pp : ∃ ws, H Pp = some (.lst ws) ∧ Paired (PipeA H) ws ps
  ne : S ≠ Pp
structure DrC (K : PySem.W.Frag) (mg : Str → Option Value) (CD : Addr) : Prop where
  cl : Cls K CD
  nS : NoAttr K CD "own_stations"
  nP : NoAttr K CD "own_pipes"
theorem pfD (x y : V) : putF "own_pipes" y [("own_stations", x)] = ([("own_stations", x), ("own_pipes", y)] : List (Str × V)) := by
  show (if ("own_stations" : Str) = "own_pipes" then _ else _) = _
  rw [if_neg (by decide +kernel)]
  rfl
def spDrInit (CD C : Addr) : Sp := fun vs H Q _ => ∃ d dx, vs = [.ref d] ∧ H d = some (.ins CD dx []) ∧ ∀ H' S Pp, (∀ b o, b ≠ d → H b = some o → H' b = some o) → H S = none → H Pp = none → DrA CD C H' d S Pp [] [] → Q .non H'
def spAdd (CD C : Addr) : Sp := fun vs H Q _ => ∃ (d S Pp Ll : Addr) (v : V) (t : Stn) (ts : List Stn) (ps : List Pipe) (lv : List V) (ls : List Ln), vs = [.ref d, v, .ref Ll] ∧ DrA CD C H d S Pp ts ps ∧ StnA C H v t ∧ H Ll = some (.lst lv) ∧ Paired (LnA H) lv ls ∧ Ll ≠ S ∧ Ll ≠ Pp ∧ ts.length ≤ 1000 ∧ ps.length ≤ 1000 ∧ ls.length ≤ 1000 ∧
  ∀ H', (∀ b o, b ≠ S → b ≠ Pp → H b = some o → H' b = some o) → DrA CD C H' d S Pp (ts ++ [t]) (ps ++ pipesOf ts.length 0 ls) → Q (.int ts.length) H'
section
variable {P : Program} {w : World} {K : PySem.W.Frag} {mg : Str → Option Value} {base : Heap} {aS a1 a2 aL aT : Addr} {f : Addr} {fd : FuncData} {C CD : Addr}
end
end FY


set_option Elab.async false
set_option linter.all false
set_option maxRecDepth 100000
set_option maxHeartbeats 4000000
namespace FY
def linesFrom : Nat → List Stn → List (Nat × Nat)
  | _, [] => []
  | n, t :: r => (List.range t.outs).map (fun k => (n, k)) ++ linesFrom (n + 1) r
theorem linesFrom_app : ∀ (n : Nat) (a b : List Stn), linesFrom n (a ++ b) = linesFrom n a ++ linesFrom (n + a.length) b
  | n, [], b => by simp [linesFrom]
  | n, t :: r, b => by
    simp only [List.cons_append, linesFrom, List.length_cons, linesFrom_app (n + 1) r b, List.append_assoc]
    congr 3
    omega
theorem mem_lines : ∀ {n : Nat} {ts : List Stn} {x : Nat × Nat}, x ∈ linesFrom n ts → ∃ i t, ts[i]? = some t ∧ x.1 = n + i ∧ x.2 < t.outs
  | n, [], x, h => by simp [linesFrom] at h
  | n, t :: r, x, h => by
    simp only [linesFrom, List.mem_append, List.mem_map, List.mem_range] at h
    rcases h with ⟨k, hk, rfl⟩ | h
    · exact ⟨0, t, rfl, rfl, hk⟩
    · obtain ⟨i, u, hu, e, hl⟩ := mem_lines h
      exact ⟨i + 1, u, by simpa using hu, by omega, hl⟩
theorem lines_nodup : ∀ (n : Nat) (ts : List Stn), (linesFrom n ts).Nodup
  | n, [] => List.nodup_nil
  | n, t :: r => by
    refine List.nodup_append.mpr ⟨?_, lines_nodup (n + 1) r, ?_⟩
    · refine List.Pairwise.map _ ?_ (List.nodup_range (n := t.outs))
      intro a b h e
      exact h (Prod.mk.inj e).2
    · intro a ha b hb e
      subst e
      obtain ⟨k, _, rfl⟩ := List.mem_map.mp ha
      obtain ⟨i, u, _, e, _⟩ := mem_lines hb
      have : n = n + 1 + i := e
      omega
def sumIns : List Stn → Nat
  | [] => 0
  | t :: r => t.ins + sumIns r
theorem sumIns_app : ∀ a b : List Stn, sumIns (a ++ b) = sumIns a + sumIns b
  | [], b => by simp [sumIns]
  | t :: r, b => by simp [sumIns, sumIns_app r b]; omega
def pb (p : Pipe) : Nat × Nat := (p.1, p.2.1)
def pe (p : Pipe) : Nat × Nat := (p.2.2.1, p.2.2.2)
end FY

set_option Elab.async false
set_option linter.all false
set_option maxRecDepth 100000
set_option maxHeartbeats 4000000
namespace FY
open PySem L2 FYR
/-! ## data, how large it is -/
structure Nice (n w : Nat) (d : PyData) : Prop where
  lay : d.canLay0 = true
  dep : d.depth ≤ n
  sh : d.showable = true
  nd : d.hasDict = false
  wt : d.weight ≤ w
  si : d.intsShort 13 = true
theorem Nice.mono {n w n' w' : Nat} {d : PyData} (h : Nice n w d) (h1 : n ≤ n') (h2 : w ≤ w') : Nice n' w' d := ⟨h.lay, Nat.le_trans h.dep h1, h.sh, h.nd, Nat.le_trans h.wt h2, h.si⟩
theorem Nice.shp {n w : Nat} {d : PyData} (h : Nice n w d) (hn : n ≤ 64) : SeqAt.shaped d = true := by
  have := h.dep
  unfold SeqAt.shaped
  simp [h.lay]
  omega
theorem Nice.shown {n w : Nat} {d : PyData} (h : Nice n w d) (hn : n ≤ 64) (hw : w ≤ 1000000) : d.shown.length ≤ sizeLine := by
  have h1 := h.dep
  have h2 := h.wt
  refine Nat.le_trans (PyProof.Rows.shown_le13 ?_ h.si) (by decide)
  unfold PyData.layable0
  simp only [h.lay, Bool.true_and, Bool.and_eq_true, decide_eq_true_eq]
  exact ⟨by omega, by have : (2 : Nat) ^ 20 = 1048576 := by decide
                      omega⟩
def smallInt (k : Fin 101) : Bool := (PyData.int (k.val : Int)).showable && decide ((PyData.int (k.val : Int)).weight ≤ 7) && (PyData.int (k.val : Int)).intsShort 13
theorem smallInts : ∀ k : Fin 101, smallInt k = true := by decide +kernel
theorem nice_int {k : Nat} (h : k ≤ 100) : Nice 0 7 (.int (k : Int)) := by
  have z := smallInts ⟨k, by omega⟩
  unfold smallInt at z
  simp only [Bool.and_eq_true, decide_eq_true_eq] at z
  exact ⟨rfl, Nat.le_refl _, z.1.1, rfl, z.1.2, z.2⟩
theorem tx_ok (b : List Bool) : PyData.strOk (tx b) = true := by
  unfold PyData.strOk
  rw [Array.all_eq_true_iff_forall_mem]
  intro c hc
  simp only [tx, List.mem_toArray, List.mem_map] at hc
  obtain ⟨x, _, rfl⟩ := hc
  cases x <;> decide
theorem nice_str {b : List Bool} {m : Nat} (h : b.length ≤ m) : Nice 0 m (.str (tx b)) := ⟨tx_ok b, Nat.le_refl _, rfl, rfl, by show (tx b).cps.size ≤ m; rw [tx_size]; exact h, rfl⟩
theorem nice_rd (r : Rd) : Nice 0 2 (.str r.s) := by
  cases r <;> exact ⟨by decide +kernel, Nat.le_refl _, rfl, rfl, by decide +kernel, rfl⟩
structure NiceAll (n w m : Nat) (ds : List PyData) : Prop where
  lay : PyData.canLayAll0 ds = true
  dep : PyData.depthAll ds ≤ n
  sh : PyData.showableAll ds = true
  nd : PyData.hasDictAll ds = false
  wt : PyData.weightAll ds ≤ m * (w + 1)
  si : PyData.intsShortAll 13 ds = true
theorem nice_all {n w : Nat} : ∀ {ds : List PyData}, (∀ d ∈ ds, Nice n w d) → NiceAll n w ds.length ds
  | [], _ => ⟨rfl, Nat.zero_le _, rfl, rfl, Nat.zero_le _, rfl⟩
  | d :: r, h => by
    have a := h d (List.mem_cons_self ..)
    have b := nice_all fun x hx => h x (List.mem_cons_of_mem _ hx)
    refine ⟨by simp [PyData.canLayAll0, a.lay, b.lay], by rw [PyData.depthAll]; exact Nat.max_le.mpr ⟨a.dep, b.dep⟩, by simp [PyData.showableAll, a.sh, b.sh], by simp [PyData.hasDictAll, a.nd, b.nd], ?_, by simp [PyData.intsShortAll, a.si, b.si]⟩
    have := a.wt
    have := b.wt
    simp only [PyData.weightAll, List.length_cons, Nat.add_mul]
    omega
theorem nice_tup {n w m : Nat} {ds : List PyData} (h : ∀ d ∈ ds, Nice n w d) (hm : ds.length ≤ m) : Nice (n + 1) (m * (w + 1)) (.tuple ds) := by
  have a := nice_all h
  exact ⟨a.lay, Nat.succ_le_succ a.dep, a.sh, a.nd, Nat.le_trans a.wt (Nat.mul_le_mul_right _ hm), a.si⟩
theorem nice_lst {n w m : Nat} {ds : List PyData} (h : ∀ d ∈ ds, Nice n w d) (hm : ds.length ≤ m) : Nice (n + 1) (m * (w + 1)) (.list ds) := by
  have a := nice_all h
  exact ⟨a.lay, Nat.succ_le_succ a.dep, a.sh, a.nd, Nat.le_trans a.wt (Nat.mul_le_mul_right _ hm), a.si⟩
theorem dpall {α : Type} {K : PySem.W.Frag} {H : Hp} {R : V → α → Prop} {f : α → PyData} (h : ∀ v x, R v x → Dp K H v (f x)) : ∀ {vs : List V} {xs : List α}, Paired R vs xs → DpAll K H vs (xs.map f)
  | _, _, .nil => .nil
  | _, _, .cons r q => .cons (h _ _ r) (dpall h q)
theorem dpstr {K : PySem.W.Frag} {H : Hp} : ∀ bs : List (List Bool), DpAll K H (bs.map fun b => V.str (tx b)) (bs.map fun b => PyData.str (tx b))
  | [] => .nil
  | b :: r => .cons (.str _) (dpstr r)
/-! rows, standings, stations -/
def rwD (r : Rw) : PyData := .tuple [.tuple (r.gives.map fun b => .str (tx b)), .int r.goal, .int r.ticks]
def sgD (s : Sg) : PyData := .tuple [.str s.reads.s, .tuple (s.rows.map rwD)]
def toD (s : Sg) : PyData := .tuple [.str s.reads.s, .list (s.rows.map rwD)]
def stD (t : Stn) : PyData := .tuple [.int t.ins, .int t.outs, .list (t.stgs.map toD)]
theorem RwA.dp {K : PySem.W.Frag} {H : Hp} {v : V} {r : Rw} (h : RwA H v r) : Dp K H v (rwD r) := by
  obtain ⟨a, g, rfl, h1, h2⟩ := h
  exact .tup (SqT.of h1) (.cons (.tup (SqT.of h2) (dpstr _)) (.cons (.int _) (.cons (.int _) .nil)))
theorem SgA.dp {K : PySem.W.Frag} {H : Hp} {v : V} {s : Sg} (h : SgA H v s) : Dp K H v (sgD s) := by
  obtain ⟨a, q, ws, rfl, h1, h2, p⟩ := h
  exact .tup (SqT.of h1) (.cons (.str _) (.cons (.tup (SqT.of h2) (dpall (fun _ _ r => r.dp) p)) .nil))
theorem ToldA.dp {K : PySem.W.Frag} {H : Hp} {v : V} {s : Sg} (h : ToldA H v s) : Dp K H v (toD s) := by
  obtain ⟨a, q, ws, rfl, h1, h2, p⟩ := h
  exact .tup (SqT.of h1) (.cons (.str _) (.cons (.lst (SqL.of h2) (dpall (fun _ _ r => r.dp) p)) .nil))
theorem rw_nice {r : Rw} {outs many : Nat} (h : r.ok outs many) (ho : outs ≤ 2) (hm : many ≤ 100) : Nice 2 24 (rwD r) := by
  obtain ⟨h1, h2, h3, h4, h5⟩ := h
  refine nice_tup (n := 1) (w := 7) (m := 3) (fun d hd => ?_) (Nat.le_refl 3)
  simp only [List.mem_cons, List.not_mem_nil, or_false] at hd
  rcases hd with rfl | rfl | rfl
  · refine (nice_tup (n := 0) (w := 2) (m := 2) (fun d hd => ?_) (by rw [List.length_map]; omega)).mono (Nat.le_refl 1) (by decide)
    obtain ⟨b, hb, rfl⟩ := List.mem_map.mp hd
    exact nice_str (h2 b hb)
  · exact (nice_int (by omega)).mono (by decide) (Nat.le_refl 7)
  · exact (nice_int (by omega)).mono (by decide) (Nat.le_refl 7)
theorem rows_nice {s : Sg} {ins outs many : Nat} (h : s.ok ins outs many) (ho : outs ≤ 2) (hm : many ≤ 100) : (∀ d ∈ s.rows.map rwD, Nice 2 24 d) ∧ (s.rows.map rwD).length ≤ 4 := by
  obtain ⟨_, h2, h3⟩ := h
  refine ⟨fun d hd => ?_, ?_⟩
  · obtain ⟨r, hr, rfl⟩ := List.mem_map.mp hd
    exact rw_nice (h3 r hr) ho hm
  · rw [List.length_map, h2]
    cases s.reads <;> decide
theorem sg_nice {s : Sg} {ins outs many : Nat} (h : s.ok ins outs many) (ho : outs ≤ 2) (hm : many ≤ 100) : Nice 4 202 (sgD s) := by
  obtain ⟨a, b⟩ := rows_nice h ho hm
  refine nice_tup (n := 3) (w := 100) (m := 2) (fun d hd => ?_) (Nat.le_refl 2)
  simp only [List.mem_cons, List.not_mem_nil, or_false] at hd
  rcases hd with rfl | rfl
  · exact (nice_rd _).mono (by decide) (by decide)
  · exact nice_tup a b
theorem to_nice {s : Sg} {ins outs many : Nat} (h : s.ok ins outs many) (ho : outs ≤ 2) (hm : many ≤ 100) : Nice 4 202 (toD s) := by
  obtain ⟨a, b⟩ := rows_nice h ho hm
  refine nice_tup (n := 3) (w := 100) (m := 2) (fun d hd => ?_) (Nat.le_refl 2)
  simp only [List.mem_cons, List.not_mem_nil, or_false] at hd
  rcases hd with rfl | rfl
  · exact (nice_rd _).mono (by decide) (by decide)
  · exact nice_lst a b
theorem st_nice {t : Stn} (h : t.ok) : Nice 6 2439 (stD t) := by
  have := h.i2
  have := h.o2
  refine nice_tup (n := 5) (w := 812) (m := 3) (fun d hd => ?_) (Nat.le_refl 3)
  simp only [List.mem_cons, List.not_mem_nil, or_false] at hd
  rcases hd with rfl | rfl | rfl
  · exact (nice_int (by omega)).mono (by decide) (by decide)
  · exact (nice_int (by omega)).mono (by decide) (by decide)
  · refine nice_lst (n := 4) (w := 202) (m := 4) (fun d hd => ?_) (by rw [List.length_map]; exact h.m2)
    obtain ⟨s, hs, rfl⟩ := List.mem_map.mp hd
    exact to_nice (h.sg s hs) h.o2 (Nat.le_trans h.m2 (by decide))
theorem sgs_nice {t : Stn} (h : t.ok) : Nice 5 812 (.tuple (t.stgs.map sgD)) := by
  refine nice_tup (n := 4) (w := 202) (m := 4) (fun d hd => ?_) (by rw [List.length_map]; exact h.m2)
  obtain ⟨s, hs, rfl⟩ := List.mem_map.mp hd
  exact sg_nice (h.sg s hs) h.o2 (Nat.le_trans h.m2 (by decide))
/-! pipes and lines -/
def ppD (p : Pipe) : PyData := .tuple [.int p.1, .int p.2.1, .int p.2.2.1, .int p.2.2.2]
def lnD (l : Nat × Nat) : PyData := .tuple [.int l.1, .int l.2]
theorem PipeA.dp {K : PySem.W.Frag} {H : Hp} {v : V} {p : Pipe} (h : PipeA H v p) : Dp K H v (ppD p) := by
  obtain ⟨t, rfl, h⟩ := h
  exact .tup (SqT.of h) (.cons (.int _) (.cons (.int _) (.cons (.int _) (.cons (.int _) .nil))))
theorem pp_nice {p : Pipe} (h : p.1 ≤ 100 ∧ p.2.1 ≤ 100 ∧ p.2.2.1 ≤ 100 ∧ p.2.2.2 ≤ 100) : Nice 1 32 (ppD p) := by
  obtain ⟨h1, h2, h3, h4⟩ := h
  refine nice_tup (n := 0) (w := 7) (m := 4) (fun d hd => ?_) (Nat.le_refl 4)
  simp only [List.mem_cons, List.not_mem_nil, or_false] at hd
  rcases hd with rfl | rfl | rfl | rfl <;> exact nice_int (by assumption)
theorem ln_nice {l : Nat × Nat} (h : l.1 ≤ 100 ∧ l.2 ≤ 100) : Nice 1 16 (lnD l) := by
  refine nice_tup (n := 0) (w := 7) (m := 2) (fun d hd => ?_) (Nat.le_refl 2)
  simp only [List.mem_cons, List.not_mem_nil, or_false] at hd
  rcases hd with rfl | rfl
  · exact nice_int h.1
  · exact nice_int h.2
theorem ln_eqv (a b : Nat × Nat) : PyData.eqv (lnD a) (lnD b) = decide (a = b) := by
  obtain ⟨x, y⟩ := a
  obtain ⟨z, w⟩ := b
  simp only [lnD, PyData.eqv, PyData.eqvAll, Bool.and_true]
  by_cases h1 : x = z <;> by_cases h2 : y = w <;> simp [h1, h2] <;> omega
/-- the value is a pair of numbers, a tuple -/
def PrA (H : Hp) (v : V) (l : Nat × Nat) : Prop := ∃ t, v = .ref t ∧ H t = some (.tup [.int l.1, .int l.2])
theorem PrA.dp {K : PySem.W.Frag} {H : Hp} {v : V} {l : Nat × Nat} (h : PrA H v l) : Dp K H v (lnD l) := by
  obtain ⟨t, rfl, h⟩ := h
  exact .tup (SqT.of h) (.cons (.int _) (.cons (.int _) .nil))
theorem PrA.keep {H H' : Hp} (k : Tups H H') {v : V} {l : Nat × Nat} (h : PrA H v l) : PrA H' v l := by
  obtain ⟨t, e, h⟩ := h
  exact ⟨t, e, k _ _ h⟩
theorem pr_all {H H' : Hp} (k : Tups H H') : ∀ {vs : List V} {ls : List (Nat × Nat)}, Paired (PrA H) vs ls → Paired (PrA H') vs ls
  | _, _, .nil => .nil
  | _, _, .cons r q => .cons (r.keep k) (pr_all k q)
theorem any_ln (l : Nat × Nat) : ∀ ls : List (Nat × Nat), ((ls.map lnD).any fun z => PyData.eqv z (lnD l)) = decide (l ∈ ls)
  | [] => rfl
  | a :: r => by
    rw [List.map_cons, List.any_cons, any_ln l r, ln_eqv]
    by_cases h : a = l
    · subst h; simp
    · rw [decide_eq_false h, Bool.false_or]
      have : (l ∈ a :: r) ↔ l ∈ r := by
        rw [List.mem_cons]
        exact ⟨fun z => z.elim (fun e => absurd e.symm h) id, .inr⟩
      simp only [this]
/-! ## lists in A may change, all else stays -/
def KL (A : List Addr) (H H' : Hp) : Prop := ∀ b o, (∀ ps, o ≠ .tbl ps) → (b ∈ A → ∀ xs, o ≠ .lst xs) → H b = some o → H' b = some o
theorem KL.of {A : List Addr} {H H' : Hp} (s : Same H H') : KL A H H' := fun b o _ _ e => s b o e
theorem KL.trans {A : List Addr} {H H1 H2 : Hp} (a : KL A H H1) (b : KL A H1 H2) : KL A H H2 := fun x o t n e => b x o t n (a x o t n e)
theorem KL.mono {A B : List Addr} {H H' : Hp} (a : KL A H H') (h : ∀ x ∈ A, x ∈ B) : KL B H H' := fun b o t n e => a b o t (fun z => n (h b z)) e
theorem KL.nl {A : List Addr} {H H' : Hp} (a : KL A H H') : NL H H' := fun b o t n e => a b o t (fun _ => n) e
theorem KL.tups {A : List Addr} {H H' : Hp} (a : KL A H H') : Tups H H' := a.nl.tups
theorem KL.at {A : List Addr} {H : Hp} {L : Addr} {xs : List V} {o : HO} (h : H L = some (.lst xs)) (m : L ∈ A) : KL A H (upd H L o) := fun b u _ n e => by
  rw [upd_ne (fun z => by rw [z, h] at e; exact n (z ▸ m) xs (Option.some.inj e).symm)]
  exact e
theorem KL.lst {A : List Addr} {H H' : Hp} (a : KL A H H') {L : Addr} {xs : List V} (n : L ∉ A) (h : H L = some (.lst xs)) : H' L = some (.lst xs) := a L _ (fun _ z => nomatch z) (fun z => absurd z n) h
/-- a new object is in none of the lists that stand -/
theorem new_nin {A : List Addr} {H : Hp} {p : Addr} (h : ∀ a ∈ A, H a ≠ none) (hp : H p = none) : p ∉ A := fun m => h p m hp
def ToldX (A : List Addr) (H : Hp) (v : V) (s : Sg) : Prop := ∃ a q ws, v = .ref a ∧ H a = some (.tup [.str s.reads.s, .ref q]) ∧ q ∉ A ∧ H q = some (.lst ws) ∧ Paired (RwA H) ws s.rows
def DatA (A : List Addr) (H : Hp) (v : V) (t : Stn) : Prop := ∃ a L ws, v = .ref a ∧ H a = some (.tup [.int t.ins, .int t.outs, .ref L]) ∧ L ∉ A ∧ H L = some (.lst ws) ∧ Paired (ToldX A H) ws t.stgs
theorem ToldX.kl {A : List Addr} {H H' : Hp} (k : KL A H H') {v : V} {s : Sg} (h : ToldX A H v s) : ToldX A H' v s := by
  obtain ⟨a, q, ws, e, h1, n, h2, p⟩ := h
  exact ⟨a, q, ws, e, k.tups _ _ h1, n, k.lst n h2, rwA_all k.tups p⟩
theorem toldX_all {A : List Addr} {H H' : Hp} (k : KL A H H') : ∀ {vs : List V} {ss : List Sg}, Paired (ToldX A H) vs ss → Paired (ToldX A H') vs ss
  | _, _, .nil => .nil
  | _, _, .cons r q => .cons (r.kl k) (toldX_all k q)
theorem toldX_sub {A B : List Addr} {H : Hp} (h : ∀ x ∈ B, x ∈ A) : ∀ {vs : List V} {ss : List Sg}, Paired (ToldX A H) vs ss → Paired (ToldX B H) vs ss
  | _, _, .nil => .nil
  | _, _, .cons ⟨a, q, ws, e, h1, n, h2, p⟩ r => .cons ⟨a, q, ws, e, h1, fun z => n (h _ z), h2, p⟩ (toldX_sub h r)
theorem toldX_told {A : List Addr} {H : Hp} : ∀ {vs : List V} {ss : List Sg}, Paired (ToldX A H) vs ss → Paired (ToldA H) vs ss
  | _, _, .nil => .nil
  | _, _, .cons ⟨a, q, ws, e, h1, _, h2, p⟩ r => .cons ⟨a, q, ws, e, h1, h2, p⟩ (toldX_told r)
theorem DatA.kl {A : List Addr} {H H' : Hp} (k : KL A H H') {v : V} {t : Stn} (h : DatA A H v t) : DatA A H' v t := by
  obtain ⟨a, L, ws, e, h1, n, h2, p⟩ := h
  exact ⟨a, L, ws, e, k.tups _ _ h1, n, k.lst n h2, toldX_all k p⟩
theorem DatA.sub {A B : List Addr} (hs : ∀ x ∈ B, x ∈ A) {H : Hp} {v : V} {t : Stn} (h : DatA A H v t) : DatA B H v t := by
  obtain ⟨a, L, ws, e, h1, n, h2, p⟩ := h
  exact ⟨a, L, ws, e, h1, fun z => n (hs _ z), h2, toldX_sub hs p⟩
theorem dat_all {A : List Addr} {H H' : Hp} (k : KL A H H') : ∀ {vs : List V} {ts : List Stn}, Paired (DatA A H) vs ts → Paired (DatA A H') vs ts
  | _, _, .nil => .nil
  | _, _, .cons r q => .cons (r.kl k) (dat_all k q)
theorem dat_sub {A B : List Addr} (hs : ∀ x ∈ B, x ∈ A) {H : Hp} : ∀ {vs : List V} {ts : List Stn}, Paired (DatA A H) vs ts → Paired (DatA B H) vs ts
  | _, _, .nil => .nil
  | _, _, .cons r q => .cons (r.sub hs) (dat_sub hs q)
theorem DatA.dp {A : List Addr} {K : PySem.W.Frag} {H : Hp} {v : V} {t : Stn} (h : DatA A H v t) : Dp K H v (stD t) := by
  obtain ⟨a, L, ws, rfl, h1, _, h2, p⟩ := h
  exact .tup (SqT.of h1) (.cons (.int _) (.cons (.int _) (.cons (.lst (SqL.of h2) (dpall (fun _ _ r => r.dp) (toldX_told p))) .nil)))
end FY

set_option Elab.async false
set_option linter.all false
set_option maxRecDepth 100000
set_option maxHeartbeats 4000000
namespace FY
open PySem L2 FYR
theorem kListOf {X : Cx} (K : PySem.W.Frag) (hK : X.K = K) : CallR X (.type "list") (fun xs H Q => ∃ p ys, xs = [.ref p] ∧ (SqL K H p ys ∨ SqT K H p ys) ∧ ∀ l, H l = none → Q (.ref l) (upd H l (.lst ys))) := by subst hK; exact call_list_of
theorem kCv {X : Cx} (K : PySem.W.Frag) (hK : X.K = K) {e : Expr} {ta : TE} {f : Str} {pos : Pos} (he : PE X e ta) (hb : attributeBase e f X.env (eval e X.env) = eval e X.env := by rfl) : PE X (.Attribute e f pos) (ClX.tCVal K ta f) := by subst hK; exact ClX.pe_cval he hb
theorem kCon {X : Cx} (K : PySem.W.Frag) (hK : X.K = K) {e : Expr} {ta : TE} {f : Str} {pos : Pos} (he : PE X e ta) (hb : attributeBase e f X.env (eval e X.env) = eval e X.env := by rfl) : PE X (.Attribute e f pos) (tCon K ta f) := by subst hK; exact pe_con he hb
/-- what isinstance asks of an own class -/
structure IsaC (K : PySem.W.Frag) (C : Addr) : Prop where
  cl : Cls K C
  ha : PySem.W.findIn K (.ref C) "__class__" = some (some (.builtin "object.__class__"))
  hn : PySem.W.specialIn K (.builtin "object.__class__") "__get__" = some (some (.builtin "getset_descriptor.__get__"))
  htk : PySem.W.takesIn K (.builtin "object.__class__") = some true
  hm : PySem.W.mroIn K C (.type "object") = some true
theorem IsaC.ty {K : PySem.W.Frag} {C a dx : Addr} {fs : List (Str × V)} {H : Hp} (i : IsaC K C) (h : H a = some (.ins C dx fs)) : TyX K H (.ref a) (.ref C) := .base (.ins h i.cl i.ha i.hn i.htk i.hm)
theorem kit_self {K : PySem.W.Frag} {C : Addr} : PySem.W.kitOne K (.ref C) (.ref C) = some true := by
  unfold PySem.W.kitOne
  simp
def spStandings (C : Addr) : Sp := fun vs H Q _ => ∃ (v : V) (t : Stn) (A : List Addr), vs = [v] ∧ StnA C H v t ∧ t.stgs.length ≤ 100 ∧ (∀ a ∈ A, H a ≠ none) ∧ ∀ H' p ws, Same H H' → p ∉ A → H' p = some (.lst ws) → Paired (ToldX (p :: A) H') ws t.stgs → Q (.ref p) H'
def StEq (C : Addr) (a b : Addr) (H : Hp) : Prop := ∃ t, StnA C H (.ref a) t ∧ StnA C H (.ref b) t ∧ t.ok
theorem StEq.mon {C a b : Addr} {H H' : Hp} (e : Ext H H') (h : StEq C a b H) : StEq C a b H' := by
  obtain ⟨t, h1, h2, h3⟩ := h
  exact ⟨t, h1.but2 (fun b o _ _ q => e b o q), h2.but2 (fun b o _ _ q => e b o q), h3⟩
theorem eqv_dec {d : PyData} (h : d.canLay0 = true) : PyData.eqv d d = true := SeqAt.eqv_refl d h
section
variable {P : Program} {w : World} {K : PySem.W.Frag} {mg : Str → Option Value} {base : Heap} {aS a1 a2 aL aT : Addr} {f : Addr} {fd : FuncData} {C CD : Addr}
abbrev s_Station_standings : Stmt := inClass (top 35) 3
abbrev N_Station_standings : List Str := ["self", "reads", "rows"]
theorem sc_Station_standings : FnScope N_Station_standings ["self"] (defScope s_Station_standings) := ⟨rfl, rfl, rfl, by decide +kernel, rfl, by decide +kernel, by decide +kernel⟩
theorem ok_Station_standings (F : Fun K "standings" "Station.standings" s_Station_standings f fd) (T : Txt K mg aS a1 a2) (S : StC K mg C) : FnOk P w K mg base CX0 1 f fd ["self"] (spStandings C) := by
  refine F.ok sc_Station_standings (fun vs H Q E h => ?_) (fun cdv A outer s H vs Q E hr h => ?_)
  · obtain ⟨v, t, A', rfl, _⟩ := h
    rfl
  obtain ⟨v, t, A', rfl, ⟨a, dx, p, ps, rfl, ha, hp, pr⟩, hm, hA, q⟩ := h
  refine ⟨_, (pss_one (ps_ret (pe_lc (own := [("reads", 1), ("rows", 2)]) rfl sc_Station_standings.nd (kTup K rfl (kFld K rfl (pv 0))) (blkOk_by (N := N_Station_standings) (sc := defScope s_Station_standings) (by decide +kernel)) (fun _ _ _ _ _ => (kTupG (n := 2) K rfl rfl (pgs_cons (pg_name (i := 1) sc_Station_standings.nd rfl (Or.inl rfl)) (pgs_cons (pg_name (i := 2) sc_Station_standings.nd rfl (Or.inl rfl)) pgs_nil)))) (fun _ _ _ _ _ => pts_nil) (fun _ _ _ _ _ => (pe_tup (pa_cons (pv 1) (pa_cons (pe_callTy (kListOf K rfl) rfl T.b_list bt_list (pa_cons (pv 2) pa_nil)) pa_nil))))))), ?_⟩
  have hwl := paired_len pr
  refine ⟨_, rfl, a, C, dx, _, _, rfl, ha, S.cl, S.nS, rfl, _, rfl, ⟨_, SqT.of hp⟩, fun D hD => lc_it walk_tup (fun i H' => Same H H' ∧ ∃ us, H' D = some (.lst us) ∧ Paired (ToldX (D :: A') H') us (t.stgs.take i)) ⟨same_new hD _, [], upd_same, .nil⟩ (fun i H' _ z => SqT.of (z.1 _ _ hp)) ?_ ?_⟩
  · rintro i x H1 H2 hi ⟨sm, us, hd, pu⟩ ⟨rfl, hx⟩
    obtain ⟨sg, hsg, hxs⟩ := paired_get pr hx
    obtain ⟨b, l, rs, rfl, hb, hl, prs⟩ := hxs.keep (Tups.of sm)
    have hlu := paired_len pu
    have hil := lt_len hsg
    refine ⟨_, _, rfl, SqT.of hb, rfl, _, _, rfl, _, _, rfl, rfl, rfl, tyI ⟨_, rfl, _, rfl, _, _, rfl, .inr (SqT.of hl), fun p1 hp1 => ⟨sz rfl, fun p2 hp2 => ?_⟩⟩⟩
    have k1 := same_new hp1 (.lst rs)
    have k2 := same_new hp2 (.tup [.str sg.reads.s, .ref p1])
    have hd2 := k2 _ _ (k1 _ _ hd)
    have n1 : p1 ≠ D := fun z => by rw [z, hd] at hp1; cases hp1
    have nA : p1 ∉ A' := fun m => by
      cases e' : H p1 with
      | none => exact hA p1 m e'
      | some o => rw [sm _ _ e'] at hp1; cases hp1
    have kl : KL (D :: A') H2 (upd (upd (upd H2 p1 (.lst rs)) p2 (.tup [.str sg.reads.s, .ref p1])) D (.lst (us ++ [.ref p2]))) := (KL.of (k1.trans' k2)).trans (KL.at hd2 (by simp))
    refine ⟨_, hd2, ?_, same_at ((sm.trans' k1).trans' k2) hD, us ++ [.ref p2], upd_same, ?_⟩
    · rw [List.length_take] at hlu
      exact Nat.lt_of_lt_of_le (show us.length < 100000 by omega) (by decide)
    · rw [List.take_succ, hsg]
      refine paired_app (toldX_all kl pu) (.cons ⟨p2, p1, rs, rfl, tups_at hd2 _ _ upd_same, by simp [n1, nA], ?_, rwA_all kl.tups prs⟩ .nil)
      rw [upd_ne n1]
      exact k2 _ _ upd_same
  · rintro H1 ⟨sm, us, hd, pu⟩
    rw [hwl, List.take_of_length_le (Nat.le_refl _)] at pu
    exact q _ D _ sm (fun m => hA D m hD) hd pu
abbrev s_Station___eq__ : Stmt := inClass (top 35) 7
abbrev N_Station___eq__ : List Str := ["self", "other"]
theorem sc_Station___eq__ : FnScope N_Station___eq__ ["self", "other"] (defScope s_Station___eq__) := ⟨rfl, rfl, rfl, by decide +kernel, rfl, by decide +kernel, by decide +kernel⟩
theorem ok_Station_eq (F : Fun K "__eq__" "Station.__eq__" s_Station___eq__ f fd) (T : Txt K mg aS a1 a2) (S : StC K mg C) (I : IsaC K C) : FnOk P w K mg base CX0 1 f fd ["self", "other"] (spEq (StEq C)) := by
  refine F.ok sc_Station___eq__ (fun vs H Q E h => ?_) (fun cdv A outer s H vs Q E hr h => ?_)
  · obtain ⟨a, b, rfl, _⟩ := h
    rfl
  obtain ⟨x, y, rfl, ⟨t, ⟨a, dx, p, ps, ea, ha, hp, pr⟩, ⟨b, dy, p', ps', eb, hb, hp', pr'⟩, tok⟩, q⟩ := h
  cases ea
  cases eb
  refine ⟨_, (pss_cons (ps_if (PW.pt (pw_or (pt_not (pt_val (pe_callB (kIsi K rfl) rfl T.b_isinstance bt_isinstance (pa_cons (pv 1) (pa_cons (C8.pe_gc rfl S.g_Station) pa_nil))))) (pw_or (pt_cmpR op_ne (kFld K rfl (pv 0)) (kFld K rfl (pv 1)) (nomark _)) (pw_or1 (pt_cmpR op_ne (kFld K rfl (pv 0)) (kFld K rfl (pv 1)) (nomark _))))))
        (pss_one (ps_ret pe_bl))
        pss_nil)
        (pss_one (ps_ret (pe_cmpR (kEqD K rfl hr.units) (kFld K rfl (pv 0)) (kFld K rfl (pv 1)) (nomark _))))), ?_⟩
  refine ⟨_, rfl, _, _, _, _, _, rfl, .own C, I.ty hb, kit_self, _, rfl, iteF ?_⟩
  refine ⟨_, rfl, _, C, dx, _, _, rfl, ha, S.cl, S.nI, rfl, _, rfl, _, C, dy, _, _, rfl, hb, S.cl, S.nI, rfl, rfl, _, rfl, iteFd (by simp) ?_⟩
  refine ⟨_, rfl, _, C, dx, _, _, rfl, ha, S.cl, S.nO, rfl, _, rfl, _, C, dy, _, _, rfl, hb, S.cl, S.nO, rfl, rfl, _, rfl, iteFd (by simp) ?_⟩
  have ns := (sgs_nice tok)
  refine ⟨_, rfl, _, C, dx, _, _, rfl, ha, S.cl, S.nS, rfl, _, rfl, _, C, dy, _, _, rfl, hb, S.cl, S.nS, rfl, _, _, .tup (SqT.of hp) (dpall (fun _ _ r => r.dp) pr), .tup (SqT.of hp') (dpall (fun _ _ r => r.dp) pr'), ns.shp (by decide), ns.shp (by decide), ?_⟩
  rw [eqv_dec ns.lay]
  exact q _ Ext.rfl'
end
end FY


set_option Elab.async false
set_option linter.all false
set_option maxRecDepth 100000
set_option maxHeartbeats 4000000
namespace FY
open PySem L2 FYR
structure YdC (K : PySem.W.Frag) (mg : Str → Option Value) (CY : Addr) (mc : Value) : Prop where
  g_Yard : ∃ u, mg "Yard" = some u ∧ RelV (.ref CY) u
  cr : ClX.CRead K CY mc
  ms : ∃ u, ClX.CVal K CY mc "MOST_STATIONS" (.int 12) u
def spWantSt (C : Addr) : Sp := fun vs H Q _ => ∃ (L : Addr) (us : List V) (ts : List Stn), vs = [.ref L] ∧ H L = some (.lst us) ∧ Paired (StnA C H) us ts ∧ 1 ≤ ts.length ∧ ts.length ≤ 12 ∧ (∀ t, ts.head? = some t → t.ins = 1) ∧ ∀ H', Same H H' → Q .non H'
/-- a pipe that may stand between stations -/
structure PpOk (ts : List Stn) (p : Pipe) : Prop where
  lt : p.1 < p.2.2.1
  b : ∃ t, ts[p.1]? = some t ∧ p.2.1 < t.outs ∧ t.outs ≤ 2
  e : ∃ t, ts[p.2.2.1]? = some t ∧ p.2.2.2 < t.ins ∧ t.ins ≤ 2
def spIsPipe (C : Addr) : Sp := fun vs H Q _ => ∃ (L : Addr) (us : List V) (ts : List Stn) (v : V) (p : Pipe), vs = [.ref L, v] ∧ H L = some (.lst us) ∧ Paired (StnA C H) us ts ∧ PipeA H v p ∧ PpOk ts p ∧ Q (.bl true) H
theorem paired_at {α β : Type} {R : α → β → Prop} {a : List α} {b : List β} (h : Paired R a b) {i : Nat} {y : β} (hy : b[i]? = some y) : ∃ x, a[i]? = some x ∧ R x y := by
  induction h generalizing i with
  | nil => simp at hy
  | cons r q ih =>
    cases i with
    | zero => simp at hy; subst hy; exact ⟨_, rfl, r⟩
    | succ i => exact ih hy
theorem atI_nat {xs : List V} {i : Nat} {x : V} (h : xs[i]? = some x) : atI xs (i : Int) = some x := by
  unfold atI ixN
  rw [if_pos (by omega)]
  have := lt_len h
  simp [this]
  exact (List.getElem?_eq_some_iff.mp h).2
section
variable {P : Program} {w : World} {K : PySem.W.Frag} {mg : Str → Option Value} {base : Heap} {aS a1 a2 aL aT : Addr} {f : Addr} {fd : FuncData} {C CD CY : Addr} {mc : Value}
abbrev s_want_stations : Stmt := top 37
abbrev N_want_stations : List Str := ["stations", "position", "station"]
theorem sc_want_stations : FnScope N_want_stations ["stations"] (defScope s_want_stations) := ⟨rfl, rfl, rfl, by decide +kernel, rfl, by decide +kernel, by decide +kernel⟩
theorem ok_want_stations (F : Fun K "want_stations" "want_stations" s_want_stations f fd) (T : Txt K mg aS a1 a2) (S : StC K mg C) (I : IsaC K C) (Y : YdC K mg CY mc) (c_is_list : C8.Cal P w K mg base 1 "is_list" spIsList []) : FnOk P w K mg base CX0 2 f fd ["stations"] (spWantSt C) := by
  refine F.ok sc_want_stations (fun vs H Q E h => ?_) (fun cdv A outer s H vs Q E hr h => ?_)
  · obtain ⟨L, us, ts, rfl, _⟩ := h
    rfl
  obtain ⟨L, us, ts, rfl, hL, pr, m1, m2, h1, q⟩ := h
  have hwl := paired_len pr
  obtain ⟨u12, hu12⟩ := Y.ms
  refine ⟨_, (pss_cons (ps_if (PW.pt (pw_or (pt_not (pt_val (C8.pe_c c_is_list hr (by decide) rfl (pa_cons (pv 0) pa_nil)))) (pw_or1 (pt_not (pt_chain op_le op_le pe_int (pe_callB (kLen K rfl) rfl T.b_len bt_len (pa_cons (pv 0) pa_nil)) (kCv K rfl (C8.pe_gc rfl Y.g_Yard)))))))
        (pss_one ps_never)
        pss_nil)
        (pss_cons (ps_for PassesOwn.never rfl (kEnum K rfl rfl T.b_enumerate (pa_cons (pv 0) pa_nil)) (kTupG (n := 2) K rfl rfl (pgs_cons (pg_name (i := 1) sc_want_stations.nd rfl (Or.inl rfl)) (pgs_cons (pg_name (i := 2) sc_want_stations.nd rfl (Or.inl rfl)) pgs_nil)))
        (pss_one (ps_if (pt_not (pt_val (pe_callB (kIsi K rfl) rfl T.b_isinstance bt_isinstance (pa_cons (pv 2) (pa_cons (C8.pe_gc rfl S.g_Station) pa_nil)))))
        (pss_one ps_never)
        pss_nil)))
        (pss_one (ps_if (pt_cmpR op_ne (kFld K rfl (pe_ix (kIxL K rfl) (pv 0) pe_int (fun _ _ => rfl))) pe_int (nomark _))
        (pss_one ps_never)
        pss_nil)))), ?_⟩
  refine ⟨_, rfl, L, _, rfl, hL, fun H1 s1 => ⟨_, rfl, iteF ⟨_, rfl, _, _, rfl, .inl (SqL.of (s1 _ _ hL)), _, _, rfl, rfl, _, rfl, iteTd (by simp; omega) ⟨_, _, _, _, rfl, Y.cr, hu12, _, _, rfl, rfl, _, rfl, iteFd (by simp; omega) ?_⟩⟩⟩⟩
  have hL1 := s1 _ _ hL
  refine ⟨_, rfl, _, _, rfl, SqL.of hL1, for_it walk_enum (fun i σ H' => ∃ z1 z2 : Option V, σ = [some (.ref L), z1, z2] ∧ Same H H') ⟨_, _, rfl, s1⟩ (fun i σ H' _ ⟨_, _, _, e⟩ => SqL.of (e _ _ hL)) ?_ ?_⟩
  · rintro i x σ H2 H3 hi ⟨z4, z5, rfl, sm⟩ ⟨T0, p1, p2, rfl, hT0, rfl, hp1, hp2⟩
    obtain ⟨st, hst, a, dx, p, ps, rfl, ha, hp, pp⟩ := paired_get pr hp2
    have k0 := same_new hT0 (.tup [p1, .ref a])
    refine ⟨_, _, rfl, SqT.of upd_same, rfl, _, _, rfl, _, _, rfl, rfl, ?_⟩
    exact ⟨_, rfl, _, _, _, _, _, rfl, .own C, I.ty (k0 _ _ (sm _ _ ha)), kit_self, _, rfl, iteF ⟨_, _, rfl, sm.trans' k0⟩⟩
  · rintro σ H2 ⟨z4, z5, rfl, sm⟩
    cases pr with
    | nil => simp at m1
    | @cons v t vr tr r rr =>
      obtain ⟨a, dx, p, ps, rfl, ha, hp, pp⟩ := r
      have ht := h1 t rfl
      refine ⟨_, rfl, _, _, _, _, rfl, rfl, SqL.of (sm _ _ hL), at0, _, C, dx, _, _, rfl, sm _ _ ha, S.cl, S.nI, rfl, rfl, _, rfl, iteFd (by rw [ht]; rfl) (q _ sm)⟩
abbrev s_is_pipe : Stmt := top 38
abbrev N_is_pipe : List Str := ["stations", "value", "near", "line", "far", "entry"]
theorem sc_is_pipe : FnScope N_is_pipe ["stations", "value"] (defScope s_is_pipe) := ⟨rfl, rfl, rfl, by decide +kernel, rfl, by decide +kernel, by decide +kernel⟩
theorem ok_is_pipe (F : Fun K "is_pipe" "is_pipe" s_is_pipe f fd) (T : Txt K mg aS a1 a2) (S : StC K mg C) (c_is_below : C8.Cal P w K mg base 3 "is_below" spIsBelow []) : FnOk P w K mg base CX0 4 f fd ["stations", "value"] (spIsPipe C) := by
  refine F.ok sc_is_pipe (fun vs H Q E h => ?_) (fun cdv A outer s H vs Q E hr h => ?_)
  · obtain ⟨L, us, ts, v, p, rfl, _⟩ := h
    rfl
  obtain ⟨L, us, ts, v, p, rfl, hL, pr, ⟨tp, rfl, hp⟩, ⟨lt, ⟨t1, g1, b1, o1⟩, ⟨t2, g2, b2, o2⟩⟩, q⟩ := h
  have hwl := paired_len pr
  have l1 := lt_len g1
  have l2 := lt_len g2
  obtain ⟨x1, e1, a1', dx1, p1, ps1, rfl, ha1, _⟩ := paired_at pr g1
  obtain ⟨x2, e2, a2', dx2, p2, ps2, rfl, ha2, _⟩ := paired_at pr g2
  refine ⟨_, (pss_cons (ps_if (PW.pt (pw_or (pt_not (pt_val (pe_callB (kIsi K rfl) rfl T.b_isinstance bt_isinstance (pa_cons (pv 1) (pa_cons (pTy rfl T.b_tuple bt_tuple) pa_nil))))) (pw_or1 (pt_cmpR op_ne (pe_callB (kLen K rfl) rfl T.b_len bt_len (pa_cons (pv 1) pa_nil)) pe_int (nomark _)))))
        (pss_one (ps_ret pe_bl))
        pss_nil)
        (pss_cons (ps_asg (pv 1) (kTupG (n := 4) K rfl rfl (pgs_cons (pg_name (i := 2) sc_is_pipe.nd rfl (Or.inl rfl)) (pgs_cons (pg_name (i := 3) sc_is_pipe.nd rfl (Or.inl rfl)) (pgs_cons (pg_name (i := 4) sc_is_pipe.nd rfl (Or.inl rfl)) (pgs_cons (pg_name (i := 5) sc_is_pipe.nd rfl (Or.inl rfl)) pgs_nil))))))
        (pss_cons (ps_if (PW.pt (pw_or (pt_not (pt_val (C8.pe_c c_is_below hr (by decide) rfl (pa_cons (pv 2) (pa_cons (pe_callB (kLen K rfl) rfl T.b_len bt_len (pa_cons (pv 0) pa_nil)) pa_nil))))) (pw_or1 (pt_not (pt_val (C8.pe_c c_is_below hr (by decide) rfl (pa_cons (pv 4) (pa_cons (pe_callB (kLen K rfl) rfl T.b_len bt_len (pa_cons (pv 0) pa_nil)) pa_nil))))))))
        (pss_one (ps_ret pe_bl))
        pss_nil)
        (pss_cons (ps_if (PW.pt (pw_or (pt_cmpR op_ge (pv 2) (pv 4) (nomark _)) (pw_or (pt_not (pt_val (C8.pe_c c_is_below hr (by decide) rfl (pa_cons (pv 3) (pa_cons pe_int pa_nil))))) (pw_or1 (pt_not (pt_val (C8.pe_c c_is_below hr (by decide) rfl (pa_cons (pv 5) (pa_cons pe_int pa_nil)))))))))
        (pss_one (ps_ret pe_bl))
        pss_nil)
        (pss_one (ps_ret (pe_and (pe_cmpR op_lt (pv 3) (kFld K rfl (pe_ix (kIxL K rfl) (pv 0) (pv 2) (fun _ _ => rfl))) (nomark _)) (pe_one (pe_cmpR op_lt (pv 5) (kFld K rfl (pe_ix (kIxL K rfl) (pv 0) (pv 4) (fun _ _ => rfl))) (nomark _)))))))))), ?_⟩
  refine ⟨_, rfl, _, _, _, _, _, rfl, .ty _, ty_tup hp, ktt, _, rfl, iteF ⟨_, rfl, _, _, rfl, .inr (SqT.of hp), rfl, _, rfl, iteFd (by rw [dec_int]; rfl) ?_⟩⟩
  refine ⟨_, rfl, _, _, rfl, SqT.of hp, rfl, _, _, rfl, _, _, rfl, _, _, rfl, _, _, rfl, rfl, ?_⟩
  refine ⟨_, rfl, _, rfl, _, _, rfl, .inl (SqL.of hL), _, _, rfl, by omega, _, rfl, ?_⟩
  rw [decide_eq_true (by omega)]
  refine iteF ⟨_, rfl, _, rfl, _, _, rfl, .inl (SqL.of hL), _, _, rfl, by omega, _, rfl, ?_⟩
  rw [decide_eq_true (by omega)]
  refine iteF ⟨_, rfl, _, rfl, _, _, rfl, rfl, _, rfl, iteFd (by simp; omega) ?_⟩
  refine ⟨_, rfl, _, _, rfl, by omega, _, rfl, ?_⟩
  rw [decide_eq_true (by omega)]
  refine iteF ⟨_, rfl, _, _, rfl, by omega, _, rfl, ?_⟩
  rw [decide_eq_true (by omega)]
  refine iteF ⟨_, rfl, _, rfl, _, rfl, _, _, _, _, rfl, rfl, SqL.of hL, atI_nat e1, _, C, dx1, _, _, rfl, ha1, S.cl, S.nO, rfl, _, _, rfl, rfl, _, rfl, iteTd (by simp; omega) ?_⟩
  refine ⟨_, rfl, _, rfl, _, rfl, _, _, _, _, rfl, rfl, SqL.of hL, atI_nat e2, _, C, dx2, _, _, rfl, ha2, S.cl, S.nI, rfl, _, _, rfl, rfl, ?_⟩
  show Q (.bl (decide ((p.2.2.2 : Int) < (t2.ins : Int)))) H
  rw [decide_eq_true (by omega)]
  exact q
end
end FY


set_option Elab.async false
set_option linter.all false
set_option maxRecDepth 100000
set_option maxHeartbeats 4000000
namespace FY
open PySem L2 FYR
/-! comprehensions with two fors -/
section
variable {J J1 : It} {n n1 : Nat} {G G1 : Hp → Prop} {Y Y1 : Nat → Hp → V → Hp → Prop} {g g1 : TG} {tt tt1 : TT} {te : TE} {wi1 : TI} {vs vs1 : List Nat} {σ σ2 : St} {D : Addr}
def InnerL (g1 : TG) (tt1 : TT) (te : TE) (vs1 : List Nat) (σ2 : St) (D : Addr) (J1 : It) (H4 : Hp) (Nx : Hp → Prop) : Prop :=
  ∃ W1 : Nat → Nat → Hp → Prop, (∃ m, W1 0 m H4) ∧ ∀ j k H, W1 j k H → (J1.stop j H ∧ Nx H) ∨ (J1.go j H ∧ ∃ Nx1 : Hp → Prop, (∀ H', Nx1 H' → ∃ k', k' < k ∧ W1 (j + 1) k' H') ∧ ∀ x H', J1.yld j H x H' → g1 x (wipe σ2 vs1) H' fun σ3 H5 => wipe σ3 vs1 = wipe σ2 vs1 ∧ tt1 σ3 H5 fun b H6 => if b = true then te σ3 H6 fun y H7 => ∃ acc, H7 D = some (.lst acc) ∧ acc.length < sizeLine ∧ Nx1 (upd H7 D (.lst (acc ++ [y]))) else Nx1 H6)
theorem in_it (w : Walk J1 n1 G1 Y1) {H4 : Hp} {Nx : Hp → Prop} (Pv : Nat → Hp → Prop) (h0 : Pv 0 H4) (hG : ∀ i H, i ≤ n1 → Pv i H → G1 H)
    (hs : ∀ i x H H', i < n1 → Pv i H → Y1 i H x H' → g1 x (wipe σ2 vs1) H' fun σ3 H5 => wipe σ3 vs1 = wipe σ2 vs1 ∧ tt1 σ3 H5 fun b H6 => if b = true then te σ3 H6 fun y H7 => ∃ acc, H7 D = some (.lst acc) ∧ acc.length < sizeLine ∧ Pv (i + 1) (upd H7 D (.lst (acc ++ [y]))) else Pv (i + 1) H6)
    (hd : ∀ H, Pv n1 H → Nx H) : InnerL g1 tt1 te vs1 σ2 D J1 H4 Nx := by
  refine ⟨fun i m H => m = n1 - i ∧ i ≤ n1 ∧ Pv i H, ⟨n1, by simp, Nat.zero_le _, h0⟩, ?_⟩
  rintro i m H ⟨rfl, hi, p⟩
  have q := hG i H hi p
  by_cases hlt : i < n1
  · exact .inr ⟨w.goes i H hlt q, Pv (i + 1), (fun H' p' => ⟨n1 - (i + 1), by omega, rfl, hlt, p'⟩), fun x H' y => hs i x H H' hlt p (w.yields i H x H' hlt q y)⟩
  · obtain rfl : i = n1 := by omega
    exact .inl ⟨w.stops H q, hd H p⟩
theorem lc2_it (w : Walk J n G Y) {H1 : Hp} {Qd : Hp → Prop} (Pv : Nat → Hp → Prop) (h0 : Pv 0 (upd H1 D (.lst []))) (hG : ∀ i H, i ≤ n → Pv i H → G H)
    (hs : ∀ i x H H', i < n → Pv i H → Y i H x H' → g x (wipe σ vs) H' fun σ2 H2 => wipe σ2 vs = wipe σ vs ∧ tt σ2 H2 fun b H3 => if b = true then wi1 σ2 H3 fun J1 H4 => InnerL g1 tt1 te vs1 σ2 D J1 H4 (Pv (i + 1)) else Pv (i + 1) H3)
    (hd : ∀ H, Pv n H → Qd H) :
    ∃ W : Nat → Nat → Hp → Prop, (∃ m, W 0 m (upd H1 D (.lst []))) ∧ ∀ i m H, W i m H → (J.stop i H ∧ Qd H) ∨ (J.go i H ∧ ∃ Nx : Hp → Prop, (∀ H', Nx H' → ∃ m', m' < m ∧ W (i + 1) m' H') ∧ ∀ x H', J.yld i H x H' → g x (wipe σ vs) H' fun σ2 H2 => wipe σ2 vs = wipe σ vs ∧ tt σ2 H2 fun b H3 => if b = true then wi1 σ2 H3 fun J1 H4 => InnerL g1 tt1 te vs1 σ2 D J1 H4 Nx else Nx H3) := by
  refine ⟨fun i m H => m = n - i ∧ i ≤ n ∧ Pv i H, ⟨n, by simp, Nat.zero_le _, h0⟩, ?_⟩
  rintro i m H ⟨rfl, hi, p⟩
  have q := hG i H hi p
  by_cases hlt : i < n
  · exact .inr ⟨w.goes i H hlt q, Pv (i + 1), (fun H' p' => ⟨n - (i + 1), by omega, rfl, hlt, p'⟩), fun x H' y => hs i x H H' hlt p (w.yields i H x H' hlt q y)⟩
  · obtain rfl : i = n := by omega
    exact .inl ⟨w.stops H q, hd H p⟩
end
theorem hu65 {k : Nat} {A : Around} (r : Room k A) : A.units + 65 < cLine := by have := r.un; omega
theorem nwe {p : Prop} : ¬ (p ∧ (2 : Nat) = 4) := fun z => absurd z.2 (by decide)
theorem cutA (a b c d : V) : cutV [a, b, c, d] none (some 2) = [a, b] := rfl
theorem cutB (a b c d : V) : cutV [a, b, c, d] (some 2) none = [c, d] := rfl
theorem sum_ins : ∀ ts : List Stn, (ts.map fun t => (t.ins : Int)).sum = sumIns ts
  | [] => rfl
  | t :: r => by simp [sumIns, sum_ins r]
theorem lns_nice {ls : List (Nat × Nat)} (h : ∀ l ∈ ls, l.1 ≤ 100 ∧ l.2 ≤ 100) (hm : ls.length ≤ 1000) : Nice 2 17000 (.list (ls.map lnD)) := by
  refine nice_lst (n := 1) (w := 16) (m := 1000) (fun d hd => ?_) (by rw [List.length_map]; exact hm)
  obtain ⟨l, hl, rfl⟩ := List.mem_map.mp hd
  exact ln_nice (h l hl)
theorem ppok_le {ts : List Stn} {p : Pipe} (h : PpOk ts p) (hl : ts.length ≤ 100) : p.1 ≤ 100 ∧ p.2.1 ≤ 100 ∧ p.2.2.1 ≤ 100 ∧ p.2.2.2 ≤ 100 := by
  obtain ⟨lt, ⟨t1, g1, b1, o1⟩, ⟨t2, g2, b2, o2⟩⟩ := h
  have := lt_len g1
  have := lt_len g2
  omega
def spWantPp (C : Addr) : Sp := fun vs H Q _ => ∃ (L M : Addr) (us ws : List V) (ts : List Stn) (ps : List Pipe), vs = [.ref L, .ref M] ∧ H L = some (.lst us) ∧ Paired (StnA C H) us ts ∧ H M = some (.lst ws) ∧ Paired (PipeA H) ws ps ∧ (∀ p ∈ ps, PpOk ts p) ∧ (ps.map pb).Nodup ∧ (ps.map pe).Nodup ∧ sumIns ts ≤ ps.length + 1 ∧ ts.length ≤ 100 ∧ ps.length ≤ 1000 ∧ ∀ H', Same H H' → Q .non H'
section
variable {P : Program} {w : World} {K : PySem.W.Frag} {mg : Str → Option Value} {base : Heap} {aS a1 a2 aL aT : Addr} {f : Addr} {fd : FuncData} {C CD CY : Addr} {mc : Value}
abbrev s_want_pipes : Stmt := top 39
abbrev N_want_pipes : List Str := ["stations", "pipes", "begins", "ends", "position", "pipe", "station"]
theorem sc_want_pipes : FnScope N_want_pipes ["stations", "pipes"] (defScope s_want_pipes) := ⟨rfl, rfl, rfl, by decide +kernel, rfl, by decide +kernel, by decide +kernel⟩
theorem ok_want_pipes (F : Fun K "want_pipes" "want_pipes" s_want_pipes f fd) (T : Txt K mg aS a1 a2) (S : StC K mg C) (c_is_list : C8.Cal P w K mg base 1 "is_list" spIsList []) (c_is_pipe : C8.Cal P w K mg base 4 "is_pipe" (spIsPipe C) []) : FnOk P w K mg base CX0 5 f fd ["stations", "pipes"] (spWantPp C) := by
  refine F.ok sc_want_pipes (fun vs H Q E h => ?_) (fun cdv A outer s H vs Q E hr h => ?_)
  · obtain ⟨L, M, us, ws, ts, ps, rfl, _⟩ := h
    rfl
  obtain ⟨L, M, us, ws, ts, ps, rfl, hL, pr, hM, pp, pok, nb, ne, hsum, mt, mp, q⟩ := h
  have lt := paired_len pr
  have lp := paired_len pp
  refine ⟨_, (pss_cons (ps_if (pt_not (pt_val (C8.pe_c c_is_list hr (by decide) rfl (pa_cons (pv 1) pa_nil))))
        (pss_one ps_never)
        pss_nil)
        (pss_cons (ps_par (i := 2) (j := 3) rfl sc_want_pipes.nd rfl rfl (by decide) rfl rfl (pa_cons (pe_lst pa_nil) (pa_cons (pe_lst pa_nil) pa_nil)) rfl)
        (pss_cons (ps_for PassesOwn.never rfl (kEnum K rfl rfl T.b_enumerate (pa_cons (pv 1) pa_nil)) (kTupG (n := 2) K rfl rfl (pgs_cons (pg_name (i := 4) sc_want_pipes.nd rfl (Or.inl rfl)) (pgs_cons (pg_name (i := 5) sc_want_pipes.nd rfl (Or.inl rfl)) pgs_nil)))
        (pss_cons (ps_if (PW.pt (pw_or (pt_not (pt_val (C8.pe_c c_is_pipe hr (by decide) rfl (pa_cons (pv 0) (pa_cons (pv 5) pa_nil))))) (pw_or (pt_cmpR (kInD K rfl (hu65 hr)) (pe_slice (kSlT K rfl) (pv 5) po_none (po_some pe_int)) (pv 2) rfl) (pw_or1 (pt_cmpR (kInD K rfl (hu65 hr)) (pe_slice (kSlT K rfl) (pv 5) (po_some pe_int) po_none) (pv 3) rfl)))))
        (pss_one ps_never)
        pss_nil)
        (pss_cons (ps_expr (kBm K rfl PySem.F.plainAttrs_list PySem.F.slot_list_append PySem.F.type_list_append mt_append (pv 2) (pa_cons (pe_slice (kSlT K rfl) (pv 5) po_none (po_some pe_int)) pa_nil)))
        (pss_one (ps_expr (kBm K rfl PySem.F.plainAttrs_list PySem.F.slot_list_append PySem.F.type_list_append mt_append (pv 3) (pa_cons (pe_slice (kSlT K rfl) (pv 5) (po_some pe_int) po_none) pa_nil)))))))
        (pss_one (ps_if (pt_cmpR op_lt (pe_callB (kLen K rfl) rfl T.b_len bt_len (pa_cons (pv 1) pa_nil)) (pe_op op_sub (pe_callB (kSum K rfl rfl) rfl T.b_sum bt_sum (pa_cons (pe_lc (own := [("station", 6)]) rfl sc_want_pipes.nd (kList K rfl (pv 0)) (blkOk_by (N := N_want_pipes) (sc := defScope s_want_pipes) (by decide +kernel)) (fun _ _ _ _ _ => (pg_name (i := 6) sc_want_pipes.nd rfl (Or.inl rfl))) (fun _ _ _ _ _ => pts_nil) (fun _ _ _ _ _ => (kFld K rfl (pv 6)))) pa_nil)) pe_int) (nomark _))
        (pss_one ps_never)
        pss_nil))))), ?_⟩
  refine ⟨_, rfl, M, _, rfl, hM, fun H1 s1 => ⟨_, rfl, iteF ?_⟩⟩
  refine ⟨Nat.zero_le _, fun B hB => ⟨Nat.zero_le _, fun E0 hE0 => ⟨_, _, rfl, ?_⟩⟩⟩
  have nEB : E0 ≠ B := fun z => by rw [z, upd_same] at hE0; cases hE0
  have hE1 : H1 E0 = none := by rw [upd_ne nEB] at hE0; exact hE0
  have kB := same_new hB (.lst [])
  have kE := same_new hE0 (.lst [])
  have hM1 := s1 _ _ hM
  have hL1 := s1 _ _ hL
  refine ⟨_, rfl, _, _, rfl, SqL.of (kE _ _ (kB _ _ hM1)), for_it walk_enum (fun i σ H' => ∃ (z4 z5 : Option V) (bv ev : List V), σ = [some (.ref L), some (.ref M), some (.ref B), some (.ref E0), z4, z5, none] ∧ Same H1 H' ∧ H' B = some (.lst bv) ∧ Paired (PrA H') bv ((ps.take i).map pb) ∧ H' E0 = some (.lst ev) ∧ Paired (PrA H') ev ((ps.take i).map pe)) ?h0 (fun i σ H' _ ⟨_, _, _, _, _, e, _⟩ => SqL.of (e _ _ hM1)) ?hs ?hd⟩
  case h0 => exact ⟨_, _, [], [], rfl, kB.trans' kE, kE _ _ upd_same, .nil, upd_same, .nil⟩
  case hs =>
    rintro i x σ H2 H3 hi ⟨z4, z5, bv, ev, rfl, sm, hB2, pb2, hE2, pe2⟩ ⟨T0, p1, p2, rfl, hT0, rfl, hp1, hp2⟩
    obtain ⟨pi, hpi, hx⟩ := paired_get pp hp2
    have hil := lt_len hpi
    have k0 := same_new hT0 (.tup [p1, p2])
    have s3 : Same H1 (upd H2 T0 (.tup [p1, p2])) := sm.trans' k0
    have hok := pok pi (List.mem_of_getElem? hpi)
    have tk : ps.take (i + 1) = ps.take i ++ [pi] := by rw [List.take_succ, hpi]; rfl
    have lb := paired_len pb2
    have le := paired_len pe2
    rw [List.length_map, List.length_take] at lb le
    refine ⟨_, _, rfl, SqT.of upd_same, rfl, _, _, rfl, _, _, rfl, rfl, ?_⟩
    obtain ⟨tp, rfl, htp⟩ := hx
    have htp3 : upd H2 T0 (.tup [p1, .ref tp]) tp = _ := s3 _ _ (s1 _ _ htp)
    refine ⟨_, rfl, _, rfl, L, us, ts, .ref tp, pi, rfl, s3 _ _ hL1, stn_all (NL.of (s1.trans' s3)) pr, ⟨tp, rfl, htp3⟩, hok, _, rfl, iteF ?_⟩
    -- pipe[:2] in begins
    refine ⟨_, rfl, _, rfl, _, _, rfl, SqT.of htp3, nwe, fun q1 hq1 => ⟨_, rfl, ?_⟩⟩
    have k1 := same_new hq1 (.tup [.int pi.1, .int pi.2.1])
    have pb3 := pr_all (Tups.of (k0.trans' k1)) pb2
    have small : ∀ l ∈ (ps.take i).map pb, l.1 ≤ 100 ∧ l.2 ≤ 100 := fun l hl => by
      obtain ⟨y, hy, rfl⟩ := List.mem_map.mp hl
      have := ppok_le (pok y (List.mem_of_mem_take hy)) mt
      exact ⟨this.1, this.2.1⟩
    have small2 : ∀ l ∈ (ps.take i).map pe, l.1 ≤ 100 ∧ l.2 ≤ 100 := fun l hl => by
      obtain ⟨y, hy, rfl⟩ := List.mem_map.mp hl
      have := ppok_le (pok y (List.mem_of_mem_take hy)) mt
      exact ⟨this.2.2.1, this.2.2.2⟩
    have pl := ppok_le hok mt
    have ni : pb pi ∉ (ps.take i).map pb := fun z => by
      have h1 := nb
      rw [← List.take_append_drop (i + 1) ps, tk, List.map_append, List.map_append] at h1
      exact (List.nodup_append.mp (List.nodup_append.mp h1).1).2.2 _ z _ (by simp) rfl
    have ni2 : pe pi ∉ (ps.take i).map pe := fun z => by
      have h1 := ne
      rw [← List.take_append_drop (i + 1) ps, tk, List.map_append, List.map_append] at h1
      exact (List.nodup_append.mp (List.nodup_append.mp h1).1).2.2 _ z _ (by simp) rfl
    refine ⟨lnD (pb pi), _, .tup (SqT.of upd_same) (.cons (.int _) (.cons (.int _) .nil)), .lst (SqL.of (k1 _ _ (k0 _ _ hB2))) (dpall (fun _ _ r => r.dp) pb3), (ln_nice ⟨pl.1, pl.2.1⟩).shp (by decide), (lns_nice small (by rw [List.length_map, List.length_take]; omega)).shp (by decide), _, rfl, ?_⟩
    rw [any_ln, decide_eq_false ni]
    refine iteF ?_
    -- pipe[2:] in ends
    have htp4 := k1 _ _ htp3
    refine ⟨_, rfl, _, rfl, _, _, rfl, SqT.of htp4, nw2, fun q2 hq2 => ⟨_, rfl, ?_⟩⟩
    have k2 := same_new hq2 (.tup [.int pi.2.2.1, .int pi.2.2.2])
    have pe3 := pr_all (Tups.of ((k0.trans' k1).trans' k2)) pe2
    refine ⟨lnD (pe pi), _, .tup (SqT.of upd_same) (.cons (.int _) (.cons (.int _) .nil)), .lst (SqL.of (k2 _ _ (k1 _ _ (k0 _ _ hE2)))) (dpall (fun _ _ r => r.dp) pe3), (ln_nice ⟨pl.2.2.1, pl.2.2.2⟩).shp (by decide), (lns_nice small2 (by rw [List.length_map, List.length_take]; omega)).shp (by decide), _, rfl, ?_⟩
    rw [any_ln, decide_eq_false ni2]
    refine iteF ?_
    -- begins.append(pipe[:2])
    have s5 : Same H2 _ := (k0.trans' k1).trans' k2
    have hB5 := s5 _ _ hB2
    have hE5 := s5 _ _ hE2
    have htp5 := k2 _ _ htp4
    refine ⟨_, rfl, .inl ⟨rfl, _, SqL.of hB5⟩, _, rfl, _, rfl, _, _, rfl, SqT.of htp5, nwe, fun q3 hq3 => ?_⟩
    have k3 := same_new hq3 (.tup [.int pi.1, .int pi.2.1])
    have hB6 := k3 _ _ hB5
    refine ⟨B, bv, .ref q3, rfl, rfl, hB6, ?_, ?_⟩
    · exact Nat.lt_of_lt_of_le (show bv.length < 100000 by omega) (by decide)
    obtain ⟨H6, hH6⟩ : ∃ H6, H6 = upd (upd (upd (upd (upd H2 T0 (.tup [p1, .ref tp])) q1 (.tup [.int pi.1, .int pi.2.1])) q2 (.tup [.int pi.2.2.1, .int pi.2.2.2])) q3 (.tup [.int pi.1, .int pi.2.1])) B (.lst (bv ++ [.ref q3])) := ⟨_, rfl⟩
    have t6 : Tups H2 H6 := by rw [hH6]; exact (Tups.of (s5.trans' k3)).trans (tups_at hB6)
    have f6 : ∀ b o, b ≠ B → H2 b = some o → H6 b = some o := fun b o hb e => by rw [hH6, upd_ne hb]; exact (s5.trans' k3) _ _ e
    have hB7 : H6 B = some (.lst (bv ++ [.ref q3])) := by rw [hH6, upd_same]
    have hq37 : H6 q3 = some (.tup [.int pi.1, .int pi.2.1]) := by rw [hH6]; exact tups_at hB6 _ _ upd_same
    have hE7 : H6 E0 = some (.lst ev) := f6 _ _ nEB hE2
    have htp7 : H6 tp = _ := t6 _ _ (sm _ _ (s1 _ _ htp))
    rw [cutA, cutB, ← hH6]
    clear hH6
    refine ⟨_, rfl, .inl ⟨rfl, _, SqL.of hE7⟩, _, rfl, _, rfl, _, _, rfl, SqT.of htp7, nw2, fun q4 hq4 => ?_⟩
    have k4 := same_new hq4 (.tup [.int pi.2.2.1, .int pi.2.2.2])
    have hE8 := k4 _ _ hE7
    refine ⟨E0, ev, .ref q4, rfl, rfl, hE8, ?_, ?_⟩
    · exact Nat.lt_of_lt_of_le (show ev.length < 100000 by omega) (by decide)
    have t8 : Tups H6 _ := (Tups.of k4).trans (tups_at (o := .lst (ev ++ [.ref q4])) hE8)
    refine ⟨_, _, bv ++ [.ref q3], ev ++ [.ref q4], rfl, fun b o e => ?_, ?_, ?_, upd_same, ?_⟩
    · rw [upd_ne (ne_of_none e hE1)]
      exact k4 _ _ (f6 b o (ne_of_none e hB) (sm _ _ e))
    · rw [upd_ne (Ne.symm nEB)]
      exact k4 _ _ hB7
    · rw [tk, List.map_append]
      exact paired_app (pr_all (t6.trans t8) pb2) (.cons ⟨q3, rfl, t8 _ _ hq37⟩ .nil)
    · rw [tk, List.map_append]
      exact paired_app (pr_all (t6.trans t8) pe2) (.cons ⟨q4, rfl, tups_at hE8 _ _ upd_same⟩ .nil)
  case hd =>
    rintro σ H2 ⟨z4, z5, bv, ev, rfl, sm, hB2, pb2, hE2, pe2⟩
    refine ⟨_, rfl, _, _, rfl, .inl (SqL.of (sm _ _ hM1)), ?_⟩
    have hL2 := sm _ _ hL1
    refine ⟨_, rfl, _, rfl, ⟨_, SqL.of hL2⟩, fun D hD => lc_it walk_list (fun i H' => Same H2 H' ∧ H' D = some (.lst (((ts.take i).map fun t => (t.ins : Int)).map V.int))) ⟨same_new hD _, upd_same⟩ (fun i H' _ z => SqL.of (z.1 _ _ hL2)) ?_ ?_⟩
    · rintro i x H3 H4 hi ⟨sm3, hd3⟩ ⟨rfl, hx⟩
      obtain ⟨st, hst, a, dx, p, ps', rfl, ha, hp, prs⟩ := paired_get pr hx
      have hil := lt_len hst
      refine ⟨rfl, tyI ⟨_, rfl, a, C, dx, _, _, rfl, sm3 _ _ (sm _ _ (s1 _ _ ha)), S.cl, S.nI, rfl, ?_⟩⟩
      refine ⟨_, hd3, ?_, same_at sm3 hD, ?_⟩
      · rw [List.length_map]
        exact take_len_le _ _ _ (by omega)
      · rw [upd_same, ← take_one _ hst]
        simp
    · rintro H3 ⟨sm3, hd3⟩
      rw [lt, List.take_of_length_le (Nat.le_refl _)] at hd3
      refine ⟨_, _, rfl, SqL.of hd3, _, _, rfl, rfl, _, _, rfl, rfl, _, rfl, ?_⟩
      rw [sum_ins]
      refine iteFd ?_ (q _ ((s1.trans' sm).trans' sm3))
      simp
      omega
end
end FY


set_option Elab.async false
set_option linter.all false
set_option maxRecDepth 100000
set_option maxHeartbeats 4000000
namespace FY
open PySem L2 FYR
def exitsOf (ts : List Stn) (ps : List Pipe) : List (Nat × Nat) := (linesFrom 0 ts).filter fun l => !decide (l ∈ ps.map pb)
theorem lines_le : ∀ {n : Nat} {ts : List Stn}, (∀ t ∈ ts, t.outs ≤ 2) → (linesFrom n ts).length ≤ 2 * ts.length
  | n, [], _ => Nat.le_refl 0
  | n, t :: r, h => by
    have h1 := h t (List.mem_cons_self ..)
    have h2 := lines_le (n := n + 1) (ts := r) fun x hx => h x (List.mem_cons_of_mem _ hx)
    simp only [linesFrom, List.length_append, List.length_map, List.length_range, List.length_cons]
    omega
theorem line_small {ts : List Stn} (h : ∀ t ∈ ts, t.outs ≤ 2) (hl : ts.length ≤ 100) {l : Nat × Nat} (hm : l ∈ linesFrom 0 ts) : l.1 ≤ 100 ∧ l.2 ≤ 100 := by
  obtain ⟨i, t, ht, e, lt⟩ := mem_lines hm
  have := lt_len ht
  have := h t (List.mem_of_getElem? ht)
  omega
theorem lines_take {ts : List Stn} {i : Nat} {t : Stn} (h : ts[i]? = some t) : linesFrom 0 (ts.take (i + 1)) = linesFrom 0 (ts.take i) ++ (List.range t.outs).map fun k => (i, k) := by
  have hi := lt_len h
  rw [List.take_succ, h]
  show linesFrom 0 (ts.take i ++ [t]) = _
  rw [linesFrom_app, List.length_take, Nat.min_eq_left (by omega), Nat.zero_add]
  simp [linesFrom]
theorem walk_range0 {n : Nat} : Walk (Itr 0 n) n (fun _ => True) (fun i H x H' => H' = H ∧ x = V.int (i : Nat)) := walk_range.mono (fun _ h => h) (fun i H x H' _ _ ⟨e, h⟩ => ⟨e, by rw [h]; simp⟩)
def spFree (C : Addr) : Sp := fun vs H Q _ => ∃ (L M : Addr) (us ws : List V) (ts : List Stn) (ps : List Pipe), vs = [.ref L, .ref M] ∧ H L = some (.lst us) ∧ Paired (StnA C H) us ts ∧ H M = some (.lst ws) ∧ Paired (PipeA H) ws ps ∧ (∀ p ∈ ps, PpOk ts p) ∧ (∀ t ∈ ts, t.outs ≤ 2) ∧ ts.length ≤ 100 ∧ ps.length ≤ 1000 ∧
  ∀ H' p es, Same H H' → H' p = some (.tup es) → Paired (PrA H') es (exitsOf ts ps) → Q (.ref p) H'
section
variable {P : Program} {w : World} {K : PySem.W.Frag} {mg : Str → Option Value} {base : Heap} {aS a1 a2 aL aT : Addr} {f : Addr} {fd : FuncData} {C CD CY : Addr} {mc : Value}
abbrev s_free_lines : Stmt := top 40
abbrev N_free_lines : List Str := ["stations", "pipes", "taken", "lines", "pipe", "number", "station", "line", "place"]
theorem sc_free_lines : FnScope N_free_lines ["stations", "pipes"] (defScope s_free_lines) := ⟨rfl, rfl, rfl, by decide +kernel, rfl, by decide +kernel, by decide +kernel⟩
theorem ok_free_lines (F : Fun K "free_lines" "free_lines" s_free_lines f fd) (T : Txt K mg aS a1 a2) (S : StC K mg C) : FnOk P w K mg base CX0 1 f fd ["stations", "pipes"] (spFree C) := by
  refine F.ok sc_free_lines (fun vs H Q E h => ?_) (fun cdv A outer s H vs Q E hr h => ?_)
  · obtain ⟨L, M, us, ws, ts, ps, rfl, _⟩ := h
    rfl
  obtain ⟨L, M, us, ws, ts, ps, rfl, hL, pr, hM, pp, pok, o2, mt, mp, q⟩ := h
  have lt := paired_len pr
  have lp := paired_len pp
  refine ⟨_, (pss_cons (ps_set (i := 2) sc_free_lines.nd rfl (Or.inr rfl) (pe_lc (own := [("pipe", 4)]) rfl sc_free_lines.nd (kList K rfl (pv 1)) (blkOk_by (N := N_free_lines) (sc := defScope s_free_lines) (by decide +kernel)) (fun _ _ _ _ _ => (pg_name (i := 4) sc_free_lines.nd rfl (Or.inl rfl))) (fun _ _ _ _ _ => pts_nil) (fun _ _ _ _ _ => (pe_slice (kSlT K rfl) (pv 4) po_none (po_some pe_int)))))
        (pss_cons (ps_setLc2 (i := 3) (own := [("number", 5), ("station", 6), ("line", 7)]) (vs1 := [7]) rfl sc_free_lines.nd rfl rfl (sw_true rfl rfl rfl (by decide +kernel)) (kEnum K rfl rfl T.b_enumerate (pa_cons (pv 0) pa_nil)) (blkOk_by (N := N_free_lines) (sc := defScope s_free_lines) (by decide +kernel)) (by decide) (fun _ _ _ _ _ => (kTupG (n := 2) K rfl rfl (pgs_cons (pg_name (i := 5) sc_free_lines.nd rfl (Or.inl rfl)) (pgs_cons (pg_name (i := 6) sc_free_lines.nd rfl (Or.inl rfl)) pgs_nil)))) (fun _ _ _ _ _ => pts_nil) (fun _ _ _ _ _ => (pi_range1 rfl T.b_range (pa_cons (kFld K rfl (pv 6)) pa_nil))) (fun _ _ _ _ _ => (pg_name (i := 7) sc_free_lines.nd rfl (Or.inl rfl))) (fun _ _ _ _ _ => pts_nil) (fun _ _ _ _ _ => (pe_tup (pa_cons (pv 5) (pa_cons (pv 7) pa_nil)))))
        (pss_one (ps_ret (pe_callTy (kTupOf K rfl) rfl T.b_tuple bt_tuple (pa_cons (pe_lc (own := [("place", 8)]) rfl sc_free_lines.nd (kList K rfl (pv 3)) (blkOk_by (N := N_free_lines) (sc := defScope s_free_lines) (by decide +kernel)) (fun _ _ _ _ _ => (pg_name (i := 8) sc_free_lines.nd rfl (Or.inl rfl))) (fun _ _ _ _ _ => pts_one (pt_cmpR (kNotInD K rfl (hu65 hr)) (pv 8) (pv 2) rfl)) (fun _ _ _ _ _ => (pv 8))) pa_nil)))))), ?_⟩
  -- taken
  refine ⟨_, rfl, _, rfl, ⟨_, SqL.of hM⟩, fun D1 hD1 => lc_it walk_list (fun i H' => Same H H' ∧ ∃ tv, H' D1 = some (.lst tv) ∧ Paired (PrA H') tv ((ps.take i).map pb)) ⟨same_new hD1 _, [], upd_same, .nil⟩ (fun i H' _ z => SqL.of (z.1 _ _ hM)) ?_ ?_⟩
  · rintro i x H1 H2 hi ⟨sm, tv, hd, pt⟩ ⟨rfl, hx⟩
    obtain ⟨pi, hpi, tp, rfl, htp⟩ := paired_get pp hx
    have hil := lt_len hpi
    have hlt := paired_len pt
    refine ⟨rfl, tyI ⟨_, rfl, _, rfl, _, _, rfl, SqT.of (sm _ _ htp), nwe, fun q1 hq1 => ?_⟩⟩
    have k1 := same_new hq1 (.tup [.int pi.1, .int pi.2.1])
    have hd1 := k1 _ _ hd
    refine ⟨_, hd1, ?_, same_at (sm.trans' k1) hD1, tv ++ [.ref q1], upd_same, ?_⟩
    · rw [List.length_map, List.length_take] at hlt
      exact Nat.lt_of_lt_of_le (show tv.length < 100000 by omega) (by decide)
    · rw [← take_one _ hpi]
      exact paired_app (pr_all ((Tups.of k1).trans (tups_at hd1)) pt) (.cons ⟨q1, rfl, tups_at hd1 _ _ upd_same⟩ .nil)
  rintro H1 ⟨sm1, tv, hd1, pt1⟩
  rw [lp, List.take_of_length_le (Nat.le_refl _)] at pt1
  -- lines
  have hL1 := sm1 _ _ hL
  refine ⟨_, rfl, _, _, rfl, SqL.of hL1, fun D2 hD2 => lc2_it walk_enum (fun i H' => Same H1 H' ∧ ∃ lv, H' D2 = some (.lst lv) ∧ Paired (PrA H') lv (linesFrom 0 (ts.take i))) ⟨same_new hD2 _, [], upd_same, .nil⟩ (fun i H' _ z => SqL.of (z.1 _ _ hL1)) ?_ ?_⟩
  · rintro i x H2 H3 hi ⟨sm, lv, hd, pl⟩ ⟨T0, p1, p2, rfl, hT0, rfl, hp1, hp2⟩
    obtain ⟨st, hst, a, dx, p, ps', rfl, ha, hp, prs⟩ := paired_get pr hp2
    have hil := lt_len hst
    obtain rfl : V.int (i : Nat) = p1 := by simpa using hp1
    have k0 := same_new hT0 (.tup [.int (i : Nat), .ref a])
    have ho := o2 st (List.mem_of_getElem? hst)
    have hd0 := k0 _ _ hd
    have llv := paired_len pl
    have lle := lines_le (n := 0) (ts := ts.take i) fun t ht => o2 t (List.mem_of_mem_take ht)
    rw [List.length_take] at lle
    refine ⟨_, _, rfl, SqT.of upd_same, rfl, _, _, rfl, _, _, rfl, rfl, rfl, tyI ⟨_, rfl, a, C, dx, _, _, rfl, k0 _ _ (sm _ _ (sm1 _ _ ha)), S.cl, S.nO, rfl, _, rfl, ?_, ?_, in_it walk_range0 (fun j H' => Same H1 H' ∧ ∃ lv', H' D2 = some (.lst lv') ∧ Paired (PrA H') lv' (linesFrom 0 (ts.take i) ++ (List.range j).map fun k => (i, k))) ⟨sm.trans' k0, lv, hd0, by simpa using pr_all (Tups.of k0) pl⟩ (fun _ _ _ _ => trivial) ?_ ?_⟩⟩
    · omega
    · omega
    · rintro j x H4 H5 hj ⟨sm4, lv4, hd4, pl4⟩ ⟨rfl, rfl⟩
      have hj' : j < st.outs := by omega
      have ll4 := paired_len pl4
      rw [List.length_append, List.length_map, List.length_range] at ll4
      refine ⟨rfl, tyI ⟨_, rfl, _, rfl, sz rfl, fun p6 hp6 => ?_⟩⟩
      have k6 := same_new hp6 (.tup [.int (i : Nat), .int (j : Nat)])
      have hd6 := k6 _ _ hd4
      refine ⟨_, hd6, ?_, same_at (sm4.trans' k6) hD2, lv4 ++ [.ref p6], upd_same, ?_⟩
      · exact Nat.lt_of_lt_of_le (show lv4.length < 100000 by omega) (by decide)
      · rw [List.range_succ, List.map_append, ← List.append_assoc]
        exact paired_app (pr_all ((Tups.of k6).trans (tups_at hd6)) pl4) (.cons ⟨p6, rfl, tups_at hd6 _ _ upd_same⟩ .nil)
    · rintro H4 ⟨sm4, lv4, hd4, pl4⟩
      rw [Int.toNat_natCast] at pl4
      exact ⟨sm4, lv4, hd4, by rw [lines_take hst]; exact pl4⟩
  rintro H2 ⟨sm2, lv, hd2, pl2⟩
  rw [lt, List.take_of_length_le (Nat.le_refl _)] at pl2
  have hd12 := sm2 _ _ hd1
  have pt2 := pr_all (Tups.of sm2) pt1
  have llv := paired_len pl2
  have lle := lines_le (n := 0) o2
  have smallT : ∀ l ∈ ps.map pb, l.1 ≤ 100 ∧ l.2 ≤ 100 := fun l hl => by
    obtain ⟨y, hy, rfl⟩ := List.mem_map.mp hl
    have := ppok_le (pok y hy) mt
    exact ⟨this.1, this.2.1⟩
  refine ⟨_, rfl, _, rfl, ⟨_, SqL.of hd2⟩, fun D3 hD3 => lc_it walk_list (fun i H' => Same H2 H' ∧ ∃ es, H' D3 = some (.lst es) ∧ es.length ≤ i ∧ Paired (PrA H') es (((linesFrom 0 ts).take i).filter fun l => !decide (l ∈ ps.map pb))) ⟨same_new hD3 _, [], upd_same, Nat.le_refl 0, .nil⟩ (fun i H' _ z => SqL.of (z.1 _ _ hd2)) ?_ ?_⟩
  · rintro i x H3 H4 hi ⟨sm, es, hd, le, pe3⟩ ⟨rfl, hx⟩
    obtain ⟨l, hl, hxl⟩ := paired_get pl2 hx
    have hil := lt_len hl
    have hs := line_small o2 mt (List.mem_of_getElem? hl)
    have hxl3 := hxl.keep (Tups.of sm)
    refine ⟨rfl, _, rfl, _, rfl, lnD l, _, hxl3.dp, .lst (SqL.of (sm _ _ hd12)) (dpall (fun _ _ r => r.dp) (pr_all (Tups.of sm) pt2)), (ln_nice hs).shp (by decide), (lns_nice smallT (by rw [List.length_map]; exact mp)).shp (by decide), _, rfl, ?_⟩
    rw [any_ln]
    have tk : (linesFrom 0 ts).take (i + 1) = (linesFrom 0 ts).take i ++ [l] := by rw [List.take_succ, hl]; rfl
    by_cases hm : l ∈ ps.map pb
    · rw [decide_eq_true hm]
      refine iteF ⟨sm, es, hd, by omega, ?_⟩
      rw [tk, List.filter_append, List.filter_cons_of_neg (by simp [hm]), List.filter_nil, List.append_nil]
      exact pe3
    · rw [decide_eq_false hm]
      refine iteT ⟨_, rfl, _, hd, ?_, same_at sm hD3, es ++ [x], upd_same, ?_, ?_⟩
      · exact Nat.lt_of_lt_of_le (show es.length < 100000 by omega) (by decide)
      · rw [List.length_append]
        exact Nat.succ_le_succ le
      · rw [tk, List.filter_append, List.filter_cons_of_pos (by simpa using hm), List.filter_nil]
        exact paired_app (pr_all (tups_at hd) pe3) (.cons (hxl3.keep (tups_at hd)) .nil)
  rintro H3 ⟨sm3, es, hd3, le, pe3⟩
  rw [llv, List.take_of_length_le (Nat.le_refl _)] at pe3
  refine ⟨_, _, rfl, .inl ⟨SqL.of hd3, fun p hp => ?_⟩⟩
  have k := same_new hp (.tup es)
  exact q _ p es (((sm1.trans' sm2).trans' sm3).trans' k) upd_same (pr_all (Tups.of k) pe3)
end
end FY


set_option Elab.async false
set_option linter.all false
set_option maxRecDepth 100000
set_option maxHeartbeats 4000000
namespace FY
open PySem L2 FYR
def nV (ns : List Nat) : List V := ns.map fun (n : Nat) => V.int (n : Nat)
def tV (bs : List (List Bool)) : List V := bs.map fun b => V.str (tx b)
theorem tV_at {bs : List (List Bool)} {j : Nat} (h : j < bs.length) : (tV bs)[j]? = some (.str (tx bs[j])) := by
  unfold tV
  rw [List.getElem?_map, List.getElem?_eq_getElem h]
  rfl
theorem nV_at {ns : List Nat} {j : Nat} (h : j < ns.length) : (nV ns)[j]? = some (.int (ns[j] : Nat)) := by
  unfold nV
  rw [List.getElem?_map, List.getElem?_eq_getElem h]
  rfl
theorem tV_len (bs : List (List Bool)) : (tV bs).length = bs.length := by unfold tV; rw [List.length_map]
theorem nV_len (bs : List Nat) : (nV bs).length = bs.length := by unfold nV; rw [List.length_map]
theorem tV_set (bs : List (List Bool)) (j : Nat) (b : List Bool) : (tV bs).set j (.str (tx b)) = tV (bs.set j b) := by unfold tV; rw [List.map_set]
theorem nV_set (bs : List Nat) (j b : Nat) : (nV bs).set j (.int (b : Nat)) = nV (bs.set j b) := by unfold nV; rw [List.map_set]
theorem paired_len2 {α β : Type} {R : α → β → Prop} {a : List α} {b : List β} (h : Paired R a b) : a.length = b.length := by
  induction h with
  | nil => rfl
  | cons _ _ ih => simp [ih]
theorem walk_zipT {K : PySem.W.Frag} {a b : Addr} {xs ys : List V} {n : Nat} (hn : n = min xs.length ys.length) : Walk (RZ.ItzT K a b) n (fun H => SqT K H a xs ∧ SqT K H b ys) (YPair (fun i => xs[i]?) (fun i => ys[i]?)) := by
  subst hn
  refine ⟨fun i _ hi q => ?_, fun _ q => ⟨xs, ys, q.1, q.2, by omega⟩, fun i H v H' _ q y => ?_⟩
  · have h1 : i < xs.length := by omega
    have h2 : i < ys.length := by omega
    exact ⟨xs, ys, xs[i], ys[i], q.1, q.2, by simp [h1], by simp [h2]⟩
  · obtain ⟨T, x, z, h1, h2, h3, h4, h5⟩ := y
    exact ⟨T, x, z, h1, h2, h3, h4 xs q.1, h5 ys q.2⟩
theorem none_of {H H' : Hp} {p : Addr} (s : Same H H') (h : H' p = none) : H p = none := by
  cases z : H p with
  | none => rfl
  | some o => rw [s _ _ z] at h; cases h
/-- a beginning: standings, contents -/
abbrev Bg := List Nat × List (List Bool)
def BgG (H : Hp) (d : Addr) (bg : Bg) : Prop := ∃ d1 d2, H d = some (.tup [.ref d1, .ref d2]) ∧ H d1 = some (.tup (nV bg.1)) ∧ H d2 = some (.tup (tV bg.2))
theorem BgG.keep {H H' : Hp} (t : Tups H H') {d : Addr} {bg : Bg} (h : BgG H d bg) : BgG H' d bg := by
  obtain ⟨d1, d2, h0, h1, h2⟩ := h
  exact ⟨d1, d2, t _ _ h0, t _ _ h1, t _ _ h2⟩
structure BegOk (ts : List Stn) (np : Nat) (bg : Bg) : Prop where
  l1 : bg.1.length = ts.length
  l2 : bg.2.length = np
  st : ∀ (s : Nat) (t : Stn) (g : Nat), ts[s]? = some t → bg.1[s]? = some g → g < t.stgs.length
  cb : ∀ b ∈ bg.2, b.length ≤ 3
structure YdF (K : PySem.W.Frag) (CY : Addr) : Prop where
  cl : Cls K CY
  nS : NoAttr K CY "own_stations"
  nP : NoAttr K CY "own_pipes"
  nX : NoAttr K CY "own_exits"
  nB : NoAttr K CY "own_begin"
  nI : NoAttr K CY "own_into"
  nO : NoAttr K CY "own_onto"
  me : ∃ u, Con K CY "MOST_EXITS" (.int 3) u
def spStL (C : Addr) : Sp := fun vs H Q _ => ∃ (v : V) (t : Stn), vs = [v] ∧ StnA C H v t ∧ Q (.int (t.stgs.length : Nat)) H
/-- a yard that is being made -/
def spYL0 (CY : Addr) : Sp := fun vs H Q _ => ∃ (y dx a : Addr) (fs : List (Str × V)) (us : List V), vs = [.ref y] ∧ H y = some (.ins CY dx fs) ∧ fs.lookup ("own_stations" : Str) = some (.ref a) ∧ H a = some (.tup us) ∧ Q (.int (us.length : Nat)) H
def spIsBegin (CY C : Addr) : Sp := fun vs H Q _ => ∃ (y dx a b d : Addr) (fs : List (Str × V)) (us ws : List V) (ts : List Stn) (bg : Bg), vs = [.ref y, .ref d] ∧ H y = some (.ins CY dx fs) ∧ fs.lookup ("own_stations" : Str) = some (.ref a) ∧ fs.lookup ("own_pipes" : Str) = some (.ref b) ∧ H a = some (.tup us) ∧ Paired (StnA C H) us ts ∧ H b = some (.tup ws) ∧ ws.length ≤ 100 ∧ (∀ t ∈ ts, t.ok) ∧ ts.length ≤ 12 ∧ BgG H d bg ∧ BegOk ts ws.length bg ∧ ∀ H', Same H H' → Q (.bl true) H'
section
variable {P : Program} {w : World} {K : PySem.W.Frag} {mg : Str → Option Value} {base : Heap} {aS a1 a2 aL aT : Addr} {f : Addr} {fd : FuncData} {C CD CY : Addr} {mc : Value}
abbrev s_Station___len__ : Stmt := inClass (top 35) 6
abbrev N_Station___len__ : List Str := ["self"]
theorem sc_Station___len__ : FnScope N_Station___len__ ["self"] (defScope s_Station___len__) := ⟨rfl, rfl, rfl, by decide +kernel, rfl, by decide +kernel, by decide +kernel⟩
theorem ok_Station_len (F : Fun K "__len__" "Station.__len__" s_Station___len__ f fd) (T : Txt K mg aS a1 a2) (S : StC K mg C) : FnOk P w K mg base CX0 1 f fd ["self"] (spStL C) := by
  refine F.ok sc_Station___len__ (fun vs H Q E h => ?_) (fun cdv A outer s H vs Q E hr h => ?_)
  · obtain ⟨v, t, rfl, _⟩ := h
    rfl
  obtain ⟨v, t, rfl, ⟨sA, sdx, sp, sps, rfl, hsa, hsp, psg⟩, q⟩ := h
  refine ⟨_, (pss_one (ps_ret (pe_callB (kLen K rfl) rfl T.b_len bt_len (pa_cons (kFld K rfl (pv 0)) pa_nil)))), ?_⟩
  refine ⟨_, rfl, sA, C, sdx, _, _, rfl, hsa, S.cl, S.nS, rfl, _, _, rfl, .inr (SqT.of hsp), ?_⟩
  rw [paired_len psg]
  exact q
abbrev s_Yard___len__ : Stmt := inClass (top 42) 8
abbrev N_Yard___len__ : List Str := ["self"]
theorem sc_Yard___len__ : FnScope N_Yard___len__ ["self"] (defScope s_Yard___len__) := ⟨rfl, rfl, rfl, by decide +kernel, rfl, by decide +kernel, by decide +kernel⟩
theorem ok_Yard_len0 (F : Fun K "__len__" "Yard.__len__" s_Yard___len__ f fd) (T : Txt K mg aS a1 a2) (Y : YdF K CY) : FnOk P w K mg base CX0 1 f fd ["self"] (spYL0 CY) := by
  refine F.ok sc_Yard___len__ (fun vs H Q E h => ?_) (fun cdv A outer s H vs Q E hr h => ?_)
  · obtain ⟨y, dx, a, fs, us, rfl, _⟩ := h
    rfl
  obtain ⟨y, dx, a, fs, us, rfl, hy, hl, ha, q⟩ := h
  refine ⟨_, (pss_one (ps_ret (pe_callB (kLen K rfl) rfl T.b_len bt_len (pa_cons (kFld K rfl (pv 0)) pa_nil)))), ?_⟩
  exact ⟨_, rfl, y, CY, dx, _, _, rfl, hy, Y.cl, Y.nS, hl, _, _, rfl, .inr (SqT.of ha), q⟩
abbrev s_is_begin : Stmt := top 41
abbrev N_is_begin : List Str := ["yard", "value", "part", "standing", "station", "text"]
theorem sc_is_begin : FnScope N_is_begin ["yard", "value"] (defScope s_is_begin) := ⟨rfl, rfl, rfl, by decide +kernel, rfl, by decide +kernel, by decide +kernel⟩
theorem ok_is_begin (F : Fun K "is_begin" "is_begin" s_is_begin f fd) (T : Txt K mg aS a1 a2) (Y : YdF K CY) (lY0 : LenC P w K mg base 1 CY (spYL0 CY)) (lS : LenC P w K mg base 1 C (spStL C)) (c_is_below : C8.Cal P w K mg base 3 "is_below" spIsBelow []) (c_is_text_of : C8.Cal P w K mg base 2 "is_text_of" spIsTextOf []) : FnOk P w K mg base CX0 4 f fd ["yard", "value"] (spIsBegin CY C) := by
  refine F.ok sc_is_begin (fun vs H Q E h => ?_) (fun cdv A outer s0 H vs Q E hr h => ?_)
  · obtain ⟨y, dx, a, b, d, fs, us, ws, ts, bg, rfl, _⟩ := h
    rfl
  obtain ⟨y, dx, a, b, d, fs, us, ws, ts, bg, rfl, hy, la, lb, ha, pus, hb, lw, tok, m2, ⟨d1, d2, h0, h1, h2⟩, bo, q⟩ := h
  refine ⟨_, (pss_cons (ps_if (PW.pt (pw_or (pt_not (pt_val (pe_callB (kIsi K rfl) rfl T.b_isinstance bt_isinstance (pa_cons (pv 1) (pa_cons (pTy rfl T.b_tuple bt_tuple) pa_nil))))) (pw_or (pt_cmpR op_ne (pe_callB (kLen K rfl) rfl T.b_len bt_len (pa_cons (pv 1) pa_nil)) pe_int (nomark _)) (pw_or1 (pt_not (pt_val (pe_callB (kAll K rfl rfl) rfl T.b_all bt_all (pa_cons (pe_lc (own := [("part", 2)]) rfl sc_is_begin.nd (kTup K rfl (pv 1)) (blkOk_by (N := N_is_begin) (sc := defScope s_is_begin) (by decide +kernel)) (fun _ _ _ _ _ => (pg_name (i := 2) sc_is_begin.nd rfl (Or.inl rfl))) (fun _ _ _ _ _ => pts_nil) (fun _ _ _ _ _ => (pe_callB (kIsi K rfl) rfl T.b_isinstance bt_isinstance (pa_cons (pv 2) (pa_cons (pTy rfl T.b_tuple bt_tuple) pa_nil))))) pa_nil))))))))
        (pss_one (ps_ret pe_bl))
        pss_nil)
        (pss_cons (ps_if (PW.pt (pw_or (pt_cmpR op_ne (pe_callB (kLen K rfl) rfl T.b_len bt_len (pa_cons (pe_ix (kIxT K rfl) (pv 1) pe_int (fun _ _ => rfl)) pa_nil)) (pe_callB (kLenO lY0 hr (by decide)) rfl T.b_len bt_len (pa_cons (pv 0) pa_nil)) (nomark _)) (pw_or1 (pt_cmpR op_ne (pe_callB (kLen K rfl) rfl T.b_len bt_len (pa_cons (pe_ix (kIxT K rfl) (pv 1) pe_int (fun _ _ => rfl)) pa_nil)) (pe_callB (kLen K rfl) rfl T.b_len bt_len (pa_cons (kFld K rfl (pv 0)) pa_nil)) (nomark _)))))
        (pss_one (ps_ret pe_bl))
        pss_nil)
        (pss_cons (ps_if (pt_not (pt_val (pe_callB (kAll K rfl rfl) rfl T.b_all bt_all (pa_cons (pe_lc (own := [("standing", 3), ("station", 4)]) rfl sc_is_begin.nd (kZipA K rfl rfl T.b_zip (pa_cons (pe_ix (kIxT K rfl) (pv 1) pe_int (fun _ _ => rfl)) (pa_cons (kFld K rfl (pv 0)) pa_nil))) (blkOk_by (N := N_is_begin) (sc := defScope s_is_begin) (by decide +kernel)) (fun _ _ _ _ _ => (kTupG (n := 2) K rfl rfl (pgs_cons (pg_name (i := 3) sc_is_begin.nd rfl (Or.inl rfl)) (pgs_cons (pg_name (i := 4) sc_is_begin.nd rfl (Or.inl rfl)) pgs_nil)))) (fun _ _ _ _ _ => pts_nil) (fun _ _ _ _ _ => (C8.pe_c c_is_below hr (by decide) rfl (pa_cons (pv 3) (pa_cons (pe_callB (kLenO lS hr (by decide)) rfl T.b_len bt_len (pa_cons (pv 4) pa_nil)) pa_nil))))) pa_nil))))
        (pss_one (ps_ret pe_bl))
        pss_nil)
        (pss_one (ps_ret (pe_callB (kAll K rfl rfl) rfl T.b_all bt_all (pa_cons (pe_lc (own := [("text", 5)]) rfl sc_is_begin.nd (kTup K rfl (pe_ix (kIxT K rfl) (pv 1) pe_int (fun _ _ => rfl))) (blkOk_by (N := N_is_begin) (sc := defScope s_is_begin) (by decide +kernel)) (fun _ _ _ _ _ => (pg_name (i := 5) sc_is_begin.nd rfl (Or.inl rfl))) (fun _ _ _ _ _ => pts_nil) (fun _ _ _ _ _ => (C8.pe_c c_is_text_of hr (by decide) rfl (pa_cons (pv 5) (pa_cons (C8.pe_gc rfl T.g_MOST_CONTENT) pa_nil))))) pa_nil))))))), ?_⟩
  refine ⟨_, rfl, _, _, _, _, _, rfl, .ty _, ty_tup h0, ktt, _, rfl, iteF ⟨_, rfl, _, _, rfl, .inr (SqT.of h0), rfl, _, rfl, iteFd (by rw [dec_int]; rfl) ?_⟩⟩
  refine ⟨_, rfl, _, rfl, ⟨_, SqT.of h0⟩, fun D hD => lc_it walk_tup (fun i H' => Same H H' ∧ H' D = some (.lst (List.replicate i (.bl true)))) ⟨same_new hD _, upd_same⟩ (fun i H' _ z => SqT.of (z.1 _ _ h0)) ?_ ?_⟩
  · rintro i x H1 H2 hi ⟨sm, hd⟩ ⟨rfl, hx⟩
    have key : ∃ (r : Addr) (zs : List V), x = .ref r ∧ H2 r = some (.tup zs) := by
      match i, hx with
      | 0, hx => exact ⟨d1, _, (Option.some.inj hx).symm, sm _ _ h1⟩
      | 1, hx => exact ⟨d2, _, (Option.some.inj hx).symm, sm _ _ h2⟩
    obtain ⟨r, zs, rfl, hzs⟩ := key
    refine ⟨rfl, tyI ⟨_, rfl, _, _, _, _, _, rfl, .ty _, ty_tup hzs, ktt, ?_⟩⟩
    refine ⟨_, hd, ?_, same_at sm hD, ?_⟩
    · rw [List.length_replicate]
      exact Nat.lt_of_lt_of_le hi (by decide : 2 ≤ sizeLine)
    · rw [upd_same, List.replicate_succ']
  rintro H1 ⟨s1, hd⟩
  refine ⟨_, List.replicate _ true, rfl, SqL.of (by rw [hd, List.map_replicate]), _, rfl, ?_⟩
  rw [show ∀ m, (List.replicate m true).all id = true from fun m => by simp]
  refine iteF ?_
  have lus := paired_len2 pus
  refine ⟨_, rfl, _, _, _, _, rfl, rfl, SqT.of (s1 _ _ h0), atI_nat (i := 0) rfl, _, _, rfl, .inr (SqT.of (s1 _ _ h1)), _, rfl, y, dx, _, rfl, s1 _ _ hy, y, dx, a, fs, us, rfl, s1 _ _ hy, la, s1 _ _ ha, us.length, rfl, by omega, rfl, _, rfl, iteFd (by rw [dec_int, nV_len, bo.l1, lus]; simp) ?_⟩
  refine ⟨_, rfl, _, _, _, _, rfl, rfl, SqT.of (s1 _ _ h0), atI_nat (i := 1) rfl, _, _, rfl, .inr (SqT.of (s1 _ _ h2)), _, rfl, y, CY, dx, _, _, rfl, s1 _ _ hy, Y.cl, Y.nP, lb, _, _, rfl, .inr (SqT.of (s1 _ _ hb)), rfl, _, rfl, iteFd (by rw [dec_int, tV_len, bo.l2]; simp) ?_⟩
  refine ⟨_, rfl, _, _, _, _, rfl, rfl, SqT.of (s1 _ _ h0), atI_nat (i := 0) rfl, _, rfl, y, CY, dx, _, _, rfl, s1 _ _ hy, Y.cl, Y.nS, la, _, _, _, _, rfl, .inr ⟨SqT.of (s1 _ _ h1), SqT.of (s1 _ _ ha), fun D2 hD2 => lc_it (walk_zipT (n := ts.length) (by rw [nV_len, bo.l1, lus, Nat.min_self])) (fun i H' => Same H H' ∧ H' D2 = some (.lst (List.replicate i (.bl true)))) ⟨s1.trans' (same_new hD2 _), upd_same⟩ (fun i H' _ z => ⟨SqT.of (z.1 _ _ h1), SqT.of (z.1 _ _ ha)⟩) ?_ ?_⟩⟩
  · rintro i x H4 H5 hi ⟨sm, hd⟩ ⟨T0, i1, i2, rfl, hT0, rfl, hi1, hi2'⟩
    obtain ⟨g, hg, rfl⟩ := List.getElem?_map_some hi1
    have et : ts[i]? = some ts[i] := List.getElem?_eq_getElem hi
    obtain ⟨u, hu, stA⟩ := paired_at pus et
    obtain rfl : u = i2 := Option.some.inj (hu.symm.trans hi2')
    have lg := bo.st i _ g et hg
    have k5 := same_new hT0 (.tup [.int (g : Nat), u])
    have s5 := sm.trans' k5
    have tm := (tok _ (List.getElem_mem hi)).m2
    have hD2H : H D2 = none := none_of s1 hD2
    obtain ⟨sA, sdx, sp, sps, rfl, hsa, hsp, psg⟩ := stA
    refine ⟨_, _, rfl, SqT.of upd_same, rfl, _, _, rfl, _, _, rfl, rfl, rfl, tyI ⟨_, rfl, _, rfl, sA, sdx, _, rfl, s5 _ _ hsa, .ref sA, ts[i], rfl, ⟨sA, sdx, sp, sps, rfl, s5 _ _ hsa, s5 _ _ hsp, sgA_all (Tups.of s5) psg⟩, ts[i].stgs.length, rfl, by omega, _, _, rfl, by omega, ?_⟩⟩
    rw [decide_eq_true (show (g : Int) < (ts[i].stgs.length : Nat) by omega)]
    refine ⟨_, k5 _ _ hd, ?_, same_at s5 hD2H, ?_⟩
    · rw [List.length_replicate]
      exact Nat.lt_of_lt_of_le (show i < 100000 by omega) (by decide)
    · rw [upd_same, List.replicate_succ']
  rintro H4 ⟨s4, hd4⟩
  refine ⟨_, List.replicate _ true, rfl, SqL.of (by rw [hd4, List.map_replicate]), _, rfl, ?_⟩
  rw [show ∀ m, (List.replicate m true).all id = true from fun m => by simp]
  refine iteF ?_
  have l2 := bo.l2
  refine ⟨_, rfl, _, _, _, _, rfl, rfl, SqT.of (s4 _ _ h0), atI_nat (i := 1) rfl, _, rfl, ⟨_, SqT.of (s4 _ _ h2)⟩, fun D8 hD8 => lc_it walk_tup (fun i H' => Same H4 H' ∧ H' D8 = some (.lst (List.replicate i (.bl true)))) ⟨same_new hD8 _, upd_same⟩ (fun i H' _ z => SqT.of (z.1 _ _ (s4 _ _ h2))) ?_ ?_⟩
  · rintro i x H8 H9 hi ⟨sm, hd⟩ ⟨rfl, hx⟩
    obtain ⟨b', hb', rfl⟩ := List.getElem?_map_some hx
    have hil := lt_len hb'
    have b3 := bo.cb b' (List.mem_of_getElem? hb')
    refine ⟨rfl, tyI ⟨_, rfl, b', _, rfl, by omega, fun H10 s10 => ?_⟩⟩
    rw [decide_eq_true (show (b'.length : Int) ≤ 3 by omega)]
    refine ⟨_, s10 _ _ hd, ?_, same_at (sm.trans' s10) hD8, ?_⟩
    · rw [List.length_replicate]
      exact Nat.lt_of_lt_of_le (show i < 100000 by omega) (by decide)
    · rw [upd_same, List.replicate_succ']
  rintro H8 ⟨s8, hd8⟩
  refine ⟨_, List.replicate _ true, rfl, SqL.of (by rw [hd8, List.map_replicate]), ?_⟩
  rw [show ∀ m, (List.replicate m true).all id = true from fun m => by simp]
  exact q _ (s4.trans' s8)
end
end FY


set_option Elab.async false
set_option linter.all false
set_option maxRecDepth 100000
set_option maxHeartbeats 4000000
namespace FY
open PySem L2 FYR
theorem dcT_it {J : It} {n : Nat} {G : Hp → Prop} {Y : Nat → Hp → V → Hp → Prop} (w : Walk J n G Y) {g : TG} {tt : TT} {tk tv : TE} {vs : List Nat} {σ : St} {H1 : Hp} {D : Addr} {Qd : Hp → Prop} (Pv : Nat → Hp → Prop) (h0 : Pv 0 (upd H1 D (.dT []))) (hG : ∀ i H, i ≤ n → Pv i H → G H)
    (hs : ∀ i x H H', i < n → Pv i H → Y i H x H' → g x (wipe σ vs) H' fun σ2 H2 => wipe σ2 vs = wipe σ vs ∧ tt σ2 H2 fun b H3 =>
      if b = true then tk σ2 H3 fun y H4 => tv σ2 H4 fun z H5 => ∃ kvs k a, y = .ref a ∧ H5 a = some (.tup (k.map kV)) ∧ H5 D = some (.dT kvs) ∧ kvs.length < sizeLine ∧ Pv (i + 1) (upd H5 D (.dT (putK kvs k z))) else Pv (i + 1) H3) (hd : ∀ H, Pv n H → Qd H) :
    ∃ W : Nat → Nat → Hp → Prop, (∃ m, W 0 m (upd H1 D (.dT []))) ∧ ∀ i m H, W i m H → (J.stop i H ∧ Qd H) ∨ (J.go i H ∧ ∃ Nx : Hp → Prop, (∀ H', Nx H' → ∃ m', m' < m ∧ W (i + 1) m' H') ∧ ∀ x H', J.yld i H x H' → g x (wipe σ vs) H' fun σ2 H2 => wipe σ2 vs = wipe σ vs ∧ tt σ2 H2 fun b H3 =>
        if b = true then tk σ2 H3 fun y H4 => tv σ2 H4 fun z H5 => ∃ kvs k a, y = .ref a ∧ H5 a = some (.tup (k.map kV)) ∧ H5 D = some (.dT kvs) ∧ kvs.length < sizeLine ∧ Nx (upd H5 D (.dT (putK kvs k z))) else Nx H3) := by
  refine ⟨fun i m H => m = n - i ∧ i ≤ n ∧ Pv i H, ⟨n, by simp, Nat.zero_le _, h0⟩, ?_⟩
  rintro i m H ⟨rfl, hi, p⟩
  have q := hG i H hi p
  by_cases hlt : i < n
  · exact .inr ⟨w.goes i H hlt q, Pv (i + 1), (fun H' p' => ⟨n - (i + 1), by omega, rfl, hlt, p'⟩), fun x H' y => hs i x H H' hlt p (w.yields i H x H' hlt q y)⟩
  · obtain rfl : i = n := by omega
    exact .inl ⟨w.stops H q, hd H p⟩
/-! ## sorted pipes -/
def codeP (p : Pipe) : Int := TS.code 128 [(p.1 : Int), (p.2.1 : Int), (p.2.2.1 : Int), (p.2.2.2 : Int)]
theorem codeP_eq (p : Pipe) : codeP p = (p.1 : Int) * 2097152 + ((p.2.1 : Int) * 16384 + ((p.2.2.1 : Int) * 128 + (p.2.2.2 : Int))) := by
  show (p.1 : Int) * 128 ^ 3 + ((p.2.1 : Int) * 128 ^ 2 + ((p.2.2.1 : Int) * 128 ^ 1 + ((p.2.2.2 : Int) * 128 ^ 0 + 0))) = _
  rw [show (128 : Int) ^ 3 = 2097152 from by decide, show (128 : Int) ^ 2 = 16384 from by decide, show (128 : Int) ^ 1 = 128 from by decide, show (128 : Int) ^ 0 = 1 from by decide]
  omega
def srt (ps : List Pipe) : List Pipe := ps.mergeSort fun a b => decide (codeP a ≤ codeP b)
abbrev SmP (p : Pipe) : Prop := p.1 ≤ 100 ∧ p.2.1 ≤ 100 ∧ p.2.2.1 ≤ 100 ∧ p.2.2.2 ≤ 100
theorem codeP_inj {a b : Pipe} (ha : SmP a) (hb : SmP b) (h : codeP a = codeP b) : a = b := by
  obtain ⟨a1, a2, a3, a4⟩ := a
  obtain ⟨b1, b2, b3, b4⟩ := b
  obtain ⟨h1, h2, h3, h4⟩ := ha
  obtain ⟨g1, g2, g3, g4⟩ := hb
  rw [codeP_eq, codeP_eq] at h
  simp only at *
  have : a1 = b1 ∧ a2 = b2 ∧ a3 = b3 ∧ a4 = b4 := by omega
  obtain ⟨rfl, rfl, rfl, rfl⟩ := this
  rfl
theorem srt_perm (ps : List Pipe) : (srt ps).Perm ps := List.mergeSort_perm _ _
theorem srt_eq {ps qs : List Pipe} (hs : ∀ p ∈ ps, SmP p) (hp : qs.Perm ps) (ho : qs.Pairwise fun a b => codeP a ≤ codeP b) : qs = srt ps := by
  refine List.Perm.eq_of_pairwise (le := fun a b => codeP a ≤ codeP b) (fun a b ha hb h1 h2 => codeP_inj (hs a (hp.mem_iff.mp ha)) (hs b ((srt_perm ps).mem_iff.mp hb)) (by omega)) ho ?_ (hp.trans (srt_perm ps).symm)
  have z := List.pairwise_mergeSort (le := fun a b => decide (codeP a ≤ codeP b)) (fun a b c h1 h2 => by simp at *; omega) (fun a b => by simp; omega) ps
  exact z.imp fun h => by simpa using h
theorem paired_perm {α β : Type} {R : α → β → Prop} {xs ys : List α} (hp : ys.Perm xs) : ∀ {bs : List β}, Paired R xs bs → ∃ cs, cs.Perm bs ∧ Paired R ys cs := by
  induction hp with
  | nil => intro bs h; exact ⟨bs, List.Perm.refl _, h⟩
  | cons x _ ih =>
    intro bs h
    cases h with
    | cons r q =>
      obtain ⟨cs, h1, h2⟩ := ih q
      exact ⟨_ :: cs, h1.cons _, .cons r h2⟩
  | swap x y l =>
    intro bs h
    cases h with
    | cons r q =>
      cases q with
      | cons r2 q2 => exact ⟨_, List.Perm.swap _ _ _, .cons r2 (.cons r q2)⟩
  | trans _ _ i1 i2 =>
    intro bs h
    obtain ⟨cs, h1, h2⟩ := i2 h
    obtain ⟨ds, h3, h4⟩ := i1 h2
    exact ⟨ds, h3.trans h1, h4⟩
theorem paired_pw {α β : Type} {R : α → β → Prop} {S : α → α → Prop} {U : β → β → Prop} (h : ∀ x y a b, R x a → R y b → S x y → U a b) : ∀ {xs : List α} {bs : List β}, Paired R xs bs → xs.Pairwise S → bs.Pairwise U
  | _, _, .nil, _ => .nil
  | _, _, .cons r q, p => by
    obtain ⟨p1, p2⟩ := List.pairwise_cons.mp p
    refine List.pairwise_cons.mpr ⟨fun b hb => ?_, paired_pw h q p2⟩
    obtain ⟨i, hi⟩ := List.mem_iff_getElem?.mp hb
    obtain ⟨y, hy, ry⟩ := paired_at q hi
    exact h _ _ _ _ r ry (p1 y (List.mem_of_getElem? hy))
theorem putF_new {f : Str} {v : V} : ∀ {fs : List (Str × V)} (ns : List Str), fs.map (·.1) = ns → ns.contains f = false → putF f v fs = fs ++ [(f, v)]
  | [], _, _, _ => rfl
  | (x, y) :: r, ns, e, h => by
    subst e
    simp only [List.map_cons, List.contains_cons, Bool.or_eq_false_iff] at h
    have hx : ¬ x = f := fun z => by rw [z] at h; simp at h
    show (if x = f then _ else (x, y) :: putF f v r) = _
    rw [if_neg hx, putF_new (r.map (·.1)) rfl h.2]
    rfl
/-! ## yards -/
def yflds (a b c d e f : Addr) : List (Str × V) := [("own_stations", .ref a), ("own_pipes", .ref b), ("own_exits", .ref c), ("own_begin", .ref d), ("own_into", .ref e), ("own_onto", .ref f)]
def BgA (H : Hp) (d : Addr) (n m : Nat) : Prop := ∃ d1 d2, H d = some (.tup [.ref d1, .ref d2]) ∧ H d1 = some (.tup (List.replicate n (.int 0))) ∧ H d2 = some (.tup (List.replicate m (.str "")))
abbrev kL2 (l : Nat × Nat) : List Key := [.inl (l.1 : Int), .inl (l.2 : Int)]
theorem kL2_inj {a b : Nat × Nat} (h : kL2 a = kL2 b) : a = b := by
  obtain ⟨a1, a2⟩ := a
  obtain ⟨b1, b2⟩ := b
  simp only [kL2, List.cons.injEq, Sum.inl.injEq, and_true] at h
  rw [show a1 = b1 by omega, show a2 = b2 by omega]
def IntoA (kv : List (List Key × V)) (qs : List Pipe) : Prop := ∀ (j : Nat) (p : Pipe), qs[j]? = some p → valV kv (kL2 (pe p)) = some (.int (j : Nat))
def OntoA (H : Hp) (kv : List (List Key × V)) (qs : List Pipe) (ex : List (Nat × Nat)) : Prop := (∀ (j : Nat) (p : Pipe), qs[j]? = some p → ∃ a, valV kv (kL2 (pb p)) = some (.ref a) ∧ H a = some (.tup [.bl true, .int (j : Nat)])) ∧
  ∀ (j : Nat) (l : Nat × Nat), ex[j]? = some l → ∃ a, valV kv (kL2 l) = some (.ref a) ∧ H a = some (.tup [.bl false, .int (j : Nat)])
theorem OntoA.keep {H H' : Hp} (t : Tups H H') {kv : List (List Key × V)} {qs : List Pipe} {ex : List (Nat × Nat)} (h : OntoA H kv qs ex) : OntoA H' kv qs ex :=
  ⟨fun j p e => let ⟨a, x, y⟩ := h.1 j p e; ⟨a, x, t _ _ y⟩, fun j l e => let ⟨a, x, y⟩ := h.2 j l e; ⟨a, x, t _ _ y⟩⟩
theorem valV_none {kv : List (List Key × V)} {k : List Key} (h : ∀ e ∈ kv, e.1 ≠ k) : valV kv k = none := by
  unfold valV
  rw [List.find?_eq_none.mpr]
  · rfl
  · intro e he
    simpa using h e he
theorem valV_cons (e : List Key × V) (r : List (List Key × V)) (k : List Key) : valV (e :: r) k = if e.1 = k then some e.2 else valV r k := by
  split
  · rename_i h; exact valV_pos h
  · rename_i h; exact valV_neg h
theorem valV_fold : ∀ (more kvs : List (List Key × V)) (k : List Key), (more.map (·.1)).Nodup → valV (more.foldl (fun acc p => putK acc p.1 p.2) kvs) k = match valV more k with | some v => some v | none => valV kvs k
  | [], kvs, k, _ => rfl
  | e :: r, kvs, k, h => by
    obtain ⟨h1, h2⟩ := List.nodup_cons.mp h
    rw [List.foldl_cons, valV_fold r _ k h2, valV_cons, valV_put]
    by_cases z : e.1 = k
    · have : valV r k = none := valV_none fun x hx zz => h1 (by show e.1 ∈ _; rw [z, ← zz]; exact List.mem_map_of_mem (f := (·.1)) hx)
      rw [this, if_pos z, if_pos z.symm]
    · rw [if_neg z, if_neg (fun y => z y.symm)]
theorem valV_mem : ∀ {kv : List (List Key × V)} {k : List Key} {v : V}, (kv.map (·.1)).Nodup → (k, v) ∈ kv → valV kv k = some v
  | e :: r, k, v, h, hm => by
    obtain ⟨h1, h2⟩ := List.nodup_cons.mp h
    rw [valV_cons]
    rcases List.mem_cons.mp hm with z | z
    · rw [← z, if_pos rfl]
    · rw [if_neg (fun y => h1 (by show e.1 ∈ _; rw [y]; exact List.mem_map_of_mem (f := (·.1)) z)), valV_mem h2 z]
theorem nd_at {α β : Type} {f : α → β} {xs : List α} (h : (xs.map f).Nodup) {i j : Nat} {a b : α} (hi : xs[i]? = some a) (hj : xs[j]? = some b) (e : f a = f b) : i = j := by
  have h1 : (xs.map f)[i]? = some (f a) := by rw [List.getElem?_map, hi]; rfl
  have h2 : (xs.map f)[j]? = some (f a) := by rw [List.getElem?_map, hj, e]; rfl
  obtain ⟨l1, e1⟩ := List.getElem?_eq_some_iff.mp h1
  obtain ⟨l2, e2⟩ := List.getElem?_eq_some_iff.mp h2
  have pw := List.pairwise_iff_getElem.mp h
  rcases Nat.lt_trichotomy i j with z | z | z
  · exact absurd (e1.trans e2.symm) (pw i j l1 l2 z)
  · exact z
  · exact absurd (e2.trans e1.symm) (pw j i l2 l1 z)
/-- the exits' entries -/
def ExA (H : Hp) (kv : List (List Key × V)) (ex : List (Nat × Nat)) (i : Nat) : Prop := kv.map (·.1) = (ex.take i).map kL2 ∧ ∀ (j : Nat) (l : Nat × Nat), j < i → ex[j]? = some l → ∃ a, (kL2 l, V.ref a) ∈ kv ∧ H a = some (.tup [.bl false, .int (j : Nat)])
theorem ExA.keep {H H' : Hp} (t : Tups H H') {kv : List (List Key × V)} {ex : List (Nat × Nat)} {i : Nat} (h : ExA H kv ex i) : ExA H' kv ex i := ⟨h.1, fun j l hj e => let ⟨a, x, y⟩ := h.2 j l hj e; ⟨a, x, t _ _ y⟩⟩
theorem ExA.step {H : Hp} {kv : List (List Key × V)} {ex : List (Nat × Nat)} {i : Nat} {l : Nat × Nat} {a : Addr} (nd : ex.Nodup) (h : ExA H kv ex i) (hl : ex[i]? = some l) (ha : H a = some (.tup [.bl false, .int (i : Nat)])) : ExA H (putK kv (kL2 l) (.ref a)) ex (i + 1) := by
  have nn : valV kv (kL2 l) = none := valV_none fun e he z => by
    have hm : e.1 ∈ kv.map (·.1) := List.mem_map_of_mem he
    rw [h.1] at hm
    obtain ⟨l', hl', e'⟩ := List.mem_map.mp hm
    have : l' = l := kL2_inj (e'.trans z)
    subst this
    obtain ⟨j, hj, ej⟩ := List.mem_iff_getElem.mp hl'
    rw [List.getElem_take] at ej
    rw [List.length_take] at hj
    have hj' : ex[j]? = some l' := by rw [List.getElem?_eq_getElem (by omega), ej]
    have := nd_at (f := id) (xs := ex) (by simpa using nd) hj' hl rfl
    omega
  rw [putK_new _ nn]
  refine ⟨?_, fun j l' hj e => ?_⟩
  · rw [List.map_append, h.1, List.take_succ, hl]
    simp
  · by_cases z : j = i
    · subst z
      obtain rfl : l' = l := Option.some.inj (e.symm.trans hl)
      exact ⟨a, by simp, ha⟩
    · obtain ⟨b, x, y⟩ := h.2 j l' (by omega) e
      exact ⟨b, List.mem_append_left _ x, y⟩
theorem onto_upd {H : Hp} {kv kw : List (List Key × V)} {qs : List Pipe} {ex : List (Nat × Nat)} (nx : ex.Nodup) (dj : ∀ p ∈ qs, pb p ∉ ex) (h1 : ∀ (j : Nat) (p : Pipe), qs[j]? = some p → ∃ a, valV kv (kL2 (pb p)) = some (.ref a) ∧ H a = some (.tup [.bl true, .int (j : Nat)])) (h2 : ExA H kw ex ex.length) :
    OntoA H (kw.foldl (fun acc p => putK acc p.1 p.2) kv) qs ex := by
  have ek : kw.map (·.1) = ex.map kL2 := by rw [h2.1, List.take_length]
  have nd : (kw.map (·.1)).Nodup := by
    rw [ek]
    exact List.Pairwise.map _ (fun a b h e => h (kL2_inj e)) nx
  refine ⟨fun j p e => ?_, fun j l e => ?_⟩
  · obtain ⟨a, x, y⟩ := h1 j p e
    have : valV kw (kL2 (pb p)) = none := valV_none fun z hz zz => by
      have hm : z.1 ∈ kw.map (·.1) := List.mem_map_of_mem hz
      rw [ek] at hm
      obtain ⟨l', hl', e'⟩ := List.mem_map.mp hm
      exact dj p (List.mem_of_getElem? e) (by rw [← kL2_inj (e'.trans zz)]; exact hl')
    exact ⟨a, by rw [valV_fold _ _ _ nd, this]; exact x, y⟩
  · obtain ⟨a, x, y⟩ := h2.2 j l (List.getElem?_eq_some_iff.mp e).1 e
    exact ⟨a, by rw [valV_fold _ _ _ nd, valV_mem nd x], y⟩
structure YdA (CY C : Addr) (H : Hp) (y : Addr) (ts : List Stn) (ps : List Pipe) : Prop where
  ob : ∃ dx a b c d e f, H y = some (.ins CY dx (yflds a b c d e f)) ∧ (∃ us, H a = some (.tup us) ∧ Paired (StnA C H) us ts) ∧ (∃ ws, H b = some (.tup ws) ∧ Paired (PipeA H) ws (srt ps)) ∧ (∃ es, H c = some (.tup es) ∧ Paired (PrA H) es (exitsOf ts ps))
  dc : ∃ dx a b c d e f kv kw, H y = some (.ins CY dx (yflds a b c d e f)) ∧ H e = some (.dT kv) ∧ IntoA kv (srt ps) ∧ H f = some (.dT kw) ∧ OntoA H kw (srt ps) (exitsOf ts ps)
/-- with what it begins -/
def YdBg (CY : Addr) (H : Hp) (y : Addr) (bg : Bg) : Prop := ∃ dx a b c d e f, H y = some (.ins CY dx (yflds a b c d e f)) ∧ BgG H d bg
def bg0 (ts : List Stn) (ps : List Pipe) : Bg := (List.replicate ts.length 0, List.replicate ps.length [])
def BegV (H : Hp) (bv : V) (ts : List Stn) (ps : List Pipe) (bg : Bg) : Prop := (bv = .non ∧ bg = bg0 ts ps) ∨ ∃ d, bv = .ref d ∧ BgG H d bg ∧ BegOk ts ps.length bg
structure YdOk (ts : List Stn) (ps : List Pipe) : Prop where
  m1 : 1 ≤ ts.length
  m2 : ts.length ≤ 12
  hd : ∀ t, ts.head? = some t → t.ins = 1
  ok : ∀ t ∈ ts, t.ok
  pp : ∀ p ∈ ps, PpOk ts p
  nb : (ps.map pb).Nodup
  ne : (ps.map pe).Nodup
  sm : sumIns ts ≤ ps.length + 1
  mp : ps.length < 64
  ex : (exitsOf ts ps).length ≤ 3
def spYdInit (CY C : Addr) : Sp := fun vs H Q _ => ∃ (y dx L M : Addr) (bv : V) (us ws : List V) (ts : List Stn) (ps : List Pipe) (bg : Bg), vs = [.ref y, .ref L, .ref M, bv] ∧ H y = some (.ins CY dx []) ∧ H L = some (.lst us) ∧ Paired (StnA C H) us ts ∧ H M = some (.lst ws) ∧ Paired (PipeA H) ws ps ∧ YdOk ts ps ∧ BegV H bv ts ps bg ∧
  ∀ H', But y H H' → YdA CY C H' y ts ps → YdBg CY H' y bg → Q .non H'
theorem StnA.but {y CY C dx : Addr} {H H' : Hp} (k : But y H H') (hy : H y = some (.ins CY dx [])) {v : V} {t : Stn} (h : StnA C H v t) : StnA C H' v t := by
  obtain ⟨a, da, p, ps, e, h1, h2, pr⟩ := h
  have tu := k.tups hy
  refine ⟨a, da, p, ps, e, k a _ (fun z => ?_) h1, tu _ _ h2, sgA_all tu pr⟩
  rw [z, hy] at h1
  cases h1
theorem stn_but {y CY C dx : Addr} {H H' : Hp} (k : But y H H') (hy : H y = some (.ins CY dx [])) : ∀ {vs : List V} {ts : List Stn}, Paired (StnA C H) vs ts → Paired (StnA C H') vs ts
  | _, _, .nil => .nil
  | _, _, .cons r q => .cons (r.but k hy) (stn_but k hy q)
theorem But.trans {y : Addr} {H H1 H2 : Hp} (a : But y H H1) (b : But y H1 H2) : But y H H2 := fun c o n e => b c o n (a c o n e)
theorem But.of {y : Addr} {H H1 : Hp} (a : Same H H1) : But y H H1 := fun c o _ e => a c o e
theorem But.at {y : Addr} {H : Hp} {o : HO} : But y H (upd H y o) := fun c u n e => by rw [upd_ne n]; exact e
theorem putK_ne {κ : Type} [DecidableEq κ] (kvs : List (κ × V)) (k : κ) (v : V) : putK kvs k v ≠ [] := by
  unfold putK
  split
  · rename_i h
    intro z
    rw [List.map_eq_nil_iff] at z
    subst z
    simp at h
  · simp
theorem repA_of {K : PySem.W.Frag} {H : Hp} {d : Addr} {x : V} {k : Nat} {Q : VK} (hd : H d = some (.tup [x])) (hk : k ≤ 1000) (q : ∀ H' p, Same H H' → H' p = some (.tup (List.replicate k x)) → Q (.ref p) H') : rRepA K (.ref d) (.int (k : Nat)) H Q := by
  refine ⟨d, k, [x], rfl, rfl, SqT.of hd, by simp, hk, (by decide : 1 ≤ 1000), fun e => ?_, fun _ p hp => ?_⟩
  · subst e
    exact q H d (Same.refl _) hd
  · have e : (List.replicate k [x]).flatten = List.replicate k x := by
      clear q hk
      induction k with
      | zero => rfl
      | succ k ih => simp [List.replicate_succ, ih]
    rw [e]
    exact q _ p (same_new hp _) upd_same
theorem okD0 {P : Program} {w : World} {K : PySem.W.Frag} {mg : Str → Option Value} {base : Heap} {x qual : Str} {params : Arguments} {body : List Stmt} {scope : Scope} {dvs : List V} {kws : List (Str × V)} {f : Addr} {fd : FuncData} {N ps : List Str} {k : Nat} {sp : Sp} (F : FunD K x qual params body scope dvs kws f fd) (S : FnScope N ps scope) (len : ∀ vs H Q E, sp vs H Q E → vs.length = ps.length)
    (hbody : ∀ (cdv : Value) (A : Around) (outer : List Env) (s : Shared) (H : Hp) (vs : List V) (Q : VK) (E : XK), Room k (A.deeper (PyProof.Rows.envOfC qual scope s.heap.objs.size f cdv)) → sp vs H Q E →
      ∃ t, PSs (cxOf CX0 P w K mg base N qual scope f cdv A outer s H E).nox body t ∧ t { nx := fun _ H' => Q .non H', rt := Q } (start N vs) H) : FnOk P w K mg base CX0 (k + 1) f fd ps sp :=
  F.ok S len fun cdv A outer s H vs Q E hr h => by
    obtain ⟨t, h, q⟩ := hbody cdv A outer s H vs Q E hr h
    exact ⟨t, h.nox, q⟩
theorem two_keys {ts : List Stn} {ps : List Pipe} {t0 : Stn} {H : Hp} {kvs : List (List Key × V)} {n : Nat} (e : ts = [t0]) (ho : t0.outs ≤ 2) (hp : ps = []) (x : ExA H kvs (exitsOf ts ps) n) (hn : n = (exitsOf ts ps).length) : ∀ (P : Program) (w : World), (kvs.map fun p => (PySem.tupleKind (mixKind P w)).hash p.1).Nodup := by
  intro P w
  have h1 := x.1
  rw [hn, List.take_length] at h1
  have h2 : (kvs.map fun p => (PySem.tupleKind (mixKind P w)).hash p.1) = (kvs.map (·.1)).map (PySem.tupleKind (mixKind P w)).hash := by rw [List.map_map]; rfl
  rw [h2, h1]
  have h3 : exitsOf ts ps = (List.range t0.outs).map fun k => (0, k) := by
    subst e
    subst hp
    unfold exitsOf
    simp only [linesFrom, List.append_nil, List.map_nil]
    exact List.filter_eq_self.mpr fun _ _ => by simp
  rw [h3]
  have h4 := of_decide_eq_false (two_hash P w)
  have : t0.outs = 0 ∨ t0.outs = 1 ∨ t0.outs = 2 := by omega
  rcases this with z | z | z <;> rw [z]
  · exact List.nodup_nil
  · simp [List.range_succ]
  · show [(PySem.tupleKind (mixKind P w)).hash [Sum.inl 0, Sum.inl 0], (PySem.tupleKind (mixKind P w)).hash [Sum.inl 0, Sum.inl 1]].Nodup
    exact List.nodup_cons.mpr ⟨fun h => h4 (List.mem_singleton.mp h), by simp⟩
def spNever : Sp := fun vs _ _ _ => vs.length = 2 ∧ False
section
variable {P : Program} {w : World} {K : PySem.W.Frag} {mg : Str → Option Value} {base : Heap} {aS a1 a2 aL aT : Addr} {f : Addr} {fd : FuncData} {C CD CY : Addr} {mc : Value}
abbrev s_Yard___init__ : Stmt := inClass (top 42) 2
abbrev N_Yard___init__ : List Str := ["self", "stations", "pipes", "begin", "place", "pipe", "number", "line"]
theorem sc_Yard___init__ : FnScope N_Yard___init__ ["self", "stations", "pipes", "begin"] (defScope s_Yard___init__) := ⟨rfl, rfl, rfl, by decide +kernel, rfl, by decide +kernel, by decide +kernel⟩
theorem ok_Yard_init (F : FunD K "__init__" "Yard.__init__" (defArgs s_Yard___init__) (defBody s_Yard___init__) (defScope s_Yard___init__) [.non] [] f fd) (T : Txt K mg aS a1 a2) (Y : YdF K CY) (c_want_stations : C8.Cal P w K mg base 2 "want_stations" (spWantSt C) []) (c_want_pipes : C8.Cal P w K mg base 5 "want_pipes" (spWantPp C) []) (c_free_lines : C8.Cal P w K mg base 1 "free_lines" (spFree C) []) (c_is_begin : C8.Cal P w K mg base 4 "is_begin" (spIsBegin CY C) []) : FnOk P w K mg base CX0 6 f fd ["self", "stations", "pipes", "begin"] (spYdInit CY C) := by
  refine okD0 F sc_Yard___init__ (fun vs H Q E h => ?_) (fun cdv A outer s H vs Q E hr h => ?_)
  · obtain ⟨y, dx, L, M, bv, us, ws, ts, ps, bg, rfl, _⟩ := h
    rfl
  obtain ⟨y, dx, L, M, bv, us, ws, ts, ps, bg, rfl, hy, hL, pr, hM, pp, ok, hbv, q⟩ := h
  have lt := paired_len pr
  have lp := paired_len pp
  have m1 := ok.m1
  have m2 := ok.m2
  have mp := ok.mp
  refine ⟨_, (pss_cons (ps_expr (C8.pe_c c_want_stations hr (by decide) rfl (pa_cons (pv 1) pa_nil)))
        (pss_cons (ps_expr (C8.pe_c c_want_pipes hr (by decide) rfl (pa_cons (pv 1) (pa_cons (pv 2) pa_nil))))
        (pss_cons (kSetF K rfl (pv 0) (pe_callTy (kTupOf K rfl) rfl T.b_tuple bt_tuple (pa_cons (pv 1) pa_nil)))
        (pss_cons (kSetF K rfl (pv 0) (pe_callTy (kTupOf K rfl) rfl T.b_tuple bt_tuple (pa_cons (pe_callB (kSortT K (d := 4) (B := 128) rfl (by decide)) rfl T.b_sorted bt_sorted (pa_cons (pv 2) pa_nil)) pa_nil)))
        (pss_cons (kSetF K rfl (pv 0) (C8.pe_c c_free_lines hr (by decide) rfl (pa_cons (pv 1) (pa_cons (pv 2) pa_nil))))
        (pss_cons (ps_if (PW.pt (pw_and (pt_cmp (pc_notN (pv 3))) (pw_and1 (pt_not (pt_val (C8.pe_c c_is_begin hr (by decide) rfl (pa_cons (pv 0) (pa_cons (pv 3) pa_nil))))))))
        (pss_one ps_never)
        pss_nil)
        (pss_cons (ps_if (pt_cmpR op_gt (pe_callB (kLen K rfl) rfl T.b_len bt_len (pa_cons (kFld K rfl (pv 0)) pa_nil)) (kCon K rfl (pv 0)) (nomark _))
        (pss_one ps_never)
        pss_nil)
        (pss_cons (kSetF K rfl (pv 0) (pe_ifExp (pt_cmp (pc_notN (pv 3))) (pv 3) (pe_tup (pa_cons (pe_op (kRepA K rfl) (pe_tup (pa_cons pe_int pa_nil)) (pe_callB (kLen K rfl) rfl T.b_len bt_len (pa_cons (kFld K rfl (pv 0)) pa_nil))) (pa_cons (pe_op (kRepA K rfl) (pe_tup (pa_cons pe_str pa_nil)) (pe_callB (kLen K rfl) rfl T.b_len bt_len (pa_cons (kFld K rfl (pv 0)) pa_nil))) pa_nil)))))
        (pss_cons (kSetF K rfl (pv 0) (pe_dcT (own := [("place", 4), ("pipe", 5)]) rfl sc_Yard___init__.nd hr.units0 (pi_enumT K rfl rfl T.b_enumerate (pa_cons (kFld K rfl (pv 0)) pa_nil)) (blkOk_by (N := N_Yard___init__) (sc := defScope s_Yard___init__) (by decide +kernel)) (fun _ _ _ _ _ => (kTupG (n := 2) K rfl rfl (pgs_cons (pg_name (i := 4) sc_Yard___init__.nd rfl (Or.inl rfl)) (pgs_cons (pg_name (i := 5) sc_Yard___init__.nd rfl (Or.inl rfl)) pgs_nil)))) (fun _ _ _ _ _ => pts_nil) (fun _ _ _ _ _ => (pe_slice (kSlT K rfl) (pv 5) (po_some pe_int) po_none)) (fun _ _ _ _ _ => (pv 4))))
        (pss_cons (kSetF K rfl (pv 0) (pe_dcT (own := [("place", 4), ("pipe", 5)]) rfl sc_Yard___init__.nd hr.units0 (pi_enumT K rfl rfl T.b_enumerate (pa_cons (kFld K rfl (pv 0)) pa_nil)) (blkOk_by (N := N_Yard___init__) (sc := defScope s_Yard___init__) (by decide +kernel)) (fun _ _ _ _ _ => (kTupG (n := 2) K rfl rfl (pgs_cons (pg_name (i := 4) sc_Yard___init__.nd rfl (Or.inl rfl)) (pgs_cons (pg_name (i := 5) sc_Yard___init__.nd rfl (Or.inl rfl)) pgs_nil)))) (fun _ _ _ _ _ => pts_nil) (fun _ _ _ _ _ => (pe_slice (kSlT K rfl) (pv 5) po_none (po_some pe_int))) (fun _ _ _ _ _ => (pe_tup (pa_cons pe_bl (pa_cons (pv 4) pa_nil))))))
        (pss_one (ps_expr (kBm K rfl PySem.F.plainAttrs_dict PySem.F.slot_dict_update PySem.F.type_dict_update (mt_updT2 (hu1 hr)) (kFld K rfl (pv 0)) (pa_cons (pe_dcT (own := [("number", 6), ("line", 7)]) rfl sc_Yard___init__.nd hr.units0 (pi_enumT K rfl rfl T.b_enumerate (pa_cons (kFld K rfl (pv 0)) pa_nil)) (blkOk_by (N := N_Yard___init__) (sc := defScope s_Yard___init__) (by decide +kernel)) (fun _ _ _ _ _ => (kTupG (n := 2) K rfl rfl (pgs_cons (pg_name (i := 6) sc_Yard___init__.nd rfl (Or.inl rfl)) (pgs_cons (pg_name (i := 7) sc_Yard___init__.nd rfl (Or.inl rfl)) pgs_nil)))) (fun _ _ _ _ _ => pts_nil) (fun _ _ _ _ _ => (pv 7)) (fun _ _ _ _ _ => (pe_tup (pa_cons pe_bl (pa_cons (pv 6) pa_nil))))) pa_nil)))))))))))))), ?_⟩
  refine ⟨_, rfl, L, us, ts, rfl, hL, pr, m1, m2, ok.hd, fun H1 s1 => ?_⟩
  refine ⟨_, rfl, _, rfl, L, M, us, ws, ts, ps, rfl, s1 _ _ hL, stn_all (NL.of s1) pr, s1 _ _ hM, pipe_all (Tups.of s1) pp, ok.pp, ok.nb, ok.ne, ok.sm, by omega, by omega, fun H2 s2 => ?_⟩
  have s12 := s1.trans' s2
  -- own_stations
  refine ⟨_, rfl, _, _, rfl, .inl ⟨SqL.of (s12 _ _ hL), fun p1 hp1 => ?_⟩⟩
  have k1 := same_new hp1 (.tup us)
  have hy1 := k1 _ _ (s12 _ _ hy)
  refine ⟨_, rfl, y, CY, dx, _, rfl, hy1, Y.cl, Y.nS, by decide, ?_⟩
  rw [putF_new [] rfl rfl]
  obtain ⟨H3, hH3⟩ : ∃ H3, H3 = upd (upd H2 p1 (.tup us)) y (.ins CY dx ([] ++ [(("own_stations" : Str), V.ref p1)])) := ⟨_, rfl⟩
  have b3 : But y H H3 := by rw [hH3]; exact (But.of (s12.trans' k1)).trans But.at
  have hy3 : H3 y = some (.ins CY dx [("own_stations", .ref p1)]) := by rw [hH3, upd_same]; rfl
  have hp13 : H3 p1 = some (.tup us) := by rw [hH3, upd_ne (Ne.symm (ne_of_none (s12 _ _ hy) hp1))]; exact upd_same
  rw [← hH3]
  clear hH3
  have t3 := b3.tups hy
  -- own_pipes
  refine ⟨_, rfl, M, ws, rfl, SqL.of (b3.lst hy hM), by omega, fun x hx => ?_, fun zs p2 pz sz2 hp2 => ?_⟩
  · obtain ⟨i, hi⟩ := List.mem_iff_getElem?.mp hx
    obtain ⟨pi, hpi, tp, rfl, htp⟩ := paired_get pp hi
    have sm := ppok_le (ok.pp pi (List.mem_of_getElem? hpi)) (by omega)
    refine ⟨[(pi.1 : Int), (pi.2.1 : Int), (pi.2.2.1 : Int), (pi.2.2.2 : Int)], ⟨tp, rfl, SqT.of (t3 _ _ htp)⟩, rfl, fun m hm => ?_⟩
    simp only [List.mem_cons, List.not_mem_nil, or_false] at hm
    rcases hm with rfl | rfl | rfl | rfl <;> omega
  have pp3 := pipe_all t3 pp
  obtain ⟨qs, pq, pz3⟩ := paired_perm pz pp3
  have eq : qs = srt ps := srt_eq (fun p hp => ppok_le (ok.pp p hp) (by omega)) pq (paired_pw (fun x y a b ra rb sxy => by
    obtain ⟨ta, rfl, hta⟩ := ra
    obtain ⟨tb, rfl, htb⟩ := rb
    exact sxy [(a.1 : Int), (a.2.1 : Int), (a.2.2.1 : Int), (a.2.2.2 : Int)] [(b.1 : Int), (b.2.1 : Int), (b.2.2.1 : Int), (b.2.2.2 : Int)] ⟨ta, rfl, SqT.of hta⟩ ⟨tb, rfl, SqT.of htb⟩) pz3 sz2)
  subst eq
  have k2 := same_new hp2 (.lst zs)
  refine ⟨_, _, rfl, .inl ⟨SqL.of upd_same, fun p3 hp3 => ?_⟩⟩
  have k3 := same_new hp3 (.tup zs)
  have k23 := k2.trans' k3
  refine ⟨_, rfl, y, CY, dx, _, rfl, k23 _ _ hy3, Y.cl, Y.nP, Nat.lt_of_lt_of_le (Nat.lt_succ_self 1) (by decide : 2 ≤ 1000), ?_⟩
  rw [putF_new ["own_stations"] rfl (by decide +kernel)]
  obtain ⟨H4, hH4⟩ : ∃ H4, H4 = upd (upd (upd H3 p2 (.lst zs)) p3 (.tup zs)) y (.ins CY dx ([(("own_stations" : Str), V.ref p1)] ++ [(("own_pipes" : Str), V.ref p3)])) := ⟨_, rfl⟩
  have b34 : But y H3 H4 := by rw [hH4]; exact (But.of k23).trans But.at
  have b4 : But y H H4 := b3.trans b34
  have hy4 : H4 y = some (.ins CY dx [("own_stations", .ref p1), ("own_pipes", .ref p3)]) := by rw [hH4, upd_same]; rfl
  have hp34 : H4 p3 = some (.tup zs) := by rw [hH4, upd_ne (Ne.symm (ne_of_none (k2 _ _ hy3) hp3))]; exact upd_same
  have ny1 : p1 ≠ y := fun z => by rw [z, hy3] at hp13; cases hp13
  have hp14 : H4 p1 = some (.tup us) := b34 _ _ ny1 hp13
  rw [← hH4]
  clear hH4
  have t34 := b34.tups hy3
  have pz4 := pipe_all t34 pz3
  -- own_exits
  have o2 : ∀ t ∈ ts, t.outs ≤ 2 := fun t ht => (ok.ok t ht).o2
  refine ⟨_, rfl, _, rfl, L, M, us, ws, ts, ps, rfl, b4.lst hy hL, stn_but b4 hy pr, b4.lst hy hM, pipe_all (b4.tups hy) pp, ok.pp, o2, by omega, by omega, fun H5 c es s5 hc pe5 => ?_⟩
  refine ⟨_, rfl, y, CY, dx, _, rfl, s5 _ _ hy4, Y.cl, Y.nX, Nat.lt_of_lt_of_le (Nat.lt_succ_self 2) (by decide : 3 ≤ 1000), ?_⟩
  rw [putF_new ["own_stations", "own_pipes"] rfl (by decide +kernel)]
  obtain ⟨H6, hH6⟩ : ∃ H6, H6 = upd H5 y (.ins CY dx ([(("own_stations" : Str), V.ref p1), (("own_pipes" : Str), V.ref p3)] ++ [(("own_exits" : Str), V.ref c)])) := ⟨_, rfl⟩
  have b56 : But y H5 H6 := by rw [hH6]; exact But.at
  have b46 : But y H4 H6 := (But.of s5).trans b56
  have b6 : But y H H6 := b4.trans b46
  have hy6 : H6 y = some (.ins CY dx [("own_stations", .ref p1), ("own_pipes", .ref p3), ("own_exits", .ref c)]) := by rw [hH6, upd_same]; rfl
  rw [← hH6]
  clear hH6
  have t56 := b56.tups (s5 _ _ hy4)
  have hc6 := t56 _ _ hc
  have pe6 := pr_all t56 pe5
  have le6 := paired_len pe6
  have hex := ok.ex
  have hp16 := b46 _ _ ny1 hp14
  have ny3 : p3 ≠ y := fun z => by rw [z, hy4] at hp34; cases hp34
  have hp36 := b46 _ _ ny3 hp34
  have pz6 := pipe_all (b46.tups hy4) pz4
  have lz := paired_len pz6
  have lsrt : (srt ps).length = ps.length := (srt_perm ps).length_eq
  obtain ⟨u3, hu3⟩ := Y.me
  rcases hbv with ⟨rfl, rfl⟩ | ⟨d, rfl, bgd, bok⟩
  -- begin is None
  refine ⟨_, rfl, _, rfl, iteFd (by decide +kernel) (iteF ?_)⟩
  refine ⟨_, rfl, y, CY, dx, _, _, rfl, hy6, Y.cl, Y.nX, rfl, _, _, rfl, .inr (SqT.of hc6), _, rfl, y, CY, dx, _, _, u3, rfl, hy6, Y.cl, hu3, rfl, _, _, rfl, rfl, _, rfl, iteFd (by simp; omega) ?_⟩
  refine ⟨_, rfl, _, rfl, iteFd (by decide +kernel) ?_⟩
  refine ⟨sz rfl, fun d0 hd0 => ?_⟩
  have k7 := same_new hd0 (.tup [.int 0])
  refine ⟨_, rfl, y, CY, dx, _, _, rfl, k7 _ _ hy6, Y.cl, Y.nS, rfl, _, _, rfl, .inr (SqT.of (k7 _ _ hp16)), ?_⟩
  refine repA_of upd_same (by omega) fun H8 d1 s8 hd1 => ?_
  refine ⟨sz rfl, fun d3 hd3 => ?_⟩
  have k9 := same_new hd3 (.tup [.str ""])
  have s69 := (k7.trans' s8).trans' k9
  refine ⟨_, rfl, y, CY, dx, _, _, rfl, s69 _ _ hy6, Y.cl, Y.nP, rfl, _, _, rfl, .inr (SqT.of (s69 _ _ hp36)), ?_⟩
  refine repA_of upd_same (by omega) fun H10 d2 s10 hd2 => ?_
  refine ⟨sz rfl, fun d hd => ?_⟩
  have k11 := same_new hd (.tup [.ref d1, .ref d2])
  have s611 := (s69.trans' s10).trans' k11
  have bg11 : BgG (upd H10 d (.tup [.ref d1, .ref d2])) d (bg0 ts ps) := by
    refine ⟨d1, d2, upd_same, ?_, ?_⟩
    · rw [k11 _ _ (s10 _ _ (k9 _ _ hd1)), lt]
      unfold nV bg0
      simp
    · rw [k11 _ _ hd2, lz, lsrt]
      unfold tV bg0
      rw [List.map_replicate]
      exact congrArg (fun v => some (HO.tup (List.replicate ps.length (V.str v)))) (show ("" : Str) = tx [] by decide +kernel)
  clear hd1 hd2 k11 s10 k9 s8 k7 s69 hd0 hd3
  generalize bg0 ts ps = bg at *
  generalize upd H10 d (.tup [.ref d1, .ref d2]) = H11 at *
  rotate_left
  -- begin is given
  have bg6 := bgd.keep (b6.tups hy)
  have pr6 := stn_but b6 hy pr
  refine ⟨_, rfl, _, rfl, iteTd (by simp) ⟨_, rfl, _, rfl, y, dx, p1, p3, d, _, us, zs, ts, bg, rfl, hy6, rfl, rfl, hp16, pr6, hp36, by omega, ok.ok, m2, bg6, by rw [lz, lsrt]; exact bok, fun H11 s611 => ⟨_, rfl, iteF ?_⟩⟩⟩
  have hy11 := s611 _ _ hy6
  refine ⟨_, rfl, y, CY, dx, _, _, rfl, hy11, Y.cl, Y.nX, rfl, _, _, rfl, .inr (SqT.of (s611 _ _ hc6)), _, rfl, y, CY, dx, _, _, u3, rfl, hy11, Y.cl, hu3, rfl, _, _, rfl, rfl, _, rfl, iteFd (by simp; omega) ?_⟩
  refine ⟨_, rfl, _, rfl, iteTd (by simp) ⟨_, rfl, ?_⟩⟩
  have bg11 := bg6.keep (Tups.of s611)
  clear bg6 bgd bok hy11 pr6
  all_goals
    -- own_begin
    refine ⟨_, rfl, y, CY, dx, _, rfl, s611 _ _ hy6, Y.cl, Y.nB, Nat.lt_of_lt_of_le (Nat.lt_succ_self 3) (by decide : 4 ≤ 1000), ?_⟩
    rw [putF_new ["own_stations", "own_pipes", "own_exits"] rfl (by decide +kernel)]
    obtain ⟨H12, hH12⟩ : ∃ H12, H12 = upd H11 y (.ins CY dx ([(("own_stations" : Str), V.ref p1), (("own_pipes" : Str), V.ref p3), (("own_exits" : Str), V.ref c)] ++ [(("own_begin" : Str), V.ref d)])) := ⟨_, rfl⟩
    have b1112 : But y H11 H12 := by rw [hH12]; exact But.at
    have b612 : But y H6 H12 := (But.of s611).trans b1112
    have hy12 : H12 y = some (.ins CY dx [("own_stations", .ref p1), ("own_pipes", .ref p3), ("own_exits", .ref c), ("own_begin", .ref d)]) := by rw [hH12, upd_same]; rfl
    have t1112 := b1112.tups (s611 _ _ hy6)
    have bg12 := bg11.keep t1112
    rw [← hH12]
    clear hH12
    have b12 := b6.trans b612
    have t612 := b612.tups hy6
    -- own_into
    have nes : ((srt ps).map pe).Nodup := ((srt_perm ps).map pe).symm.nodup ok.ne
    have nbs : ((srt ps).map pb).Nodup := ((srt_perm ps).map pb).symm.nodup ok.nb
    have hp312 := t612 _ _ hp36
    have pz12 := pipe_all t612 pz6
    have hc12 := t612 _ _ hc6
    have pe12 := pr_all t612 pe6
    refine ⟨_, rfl, y, CY, dx, _, _, rfl, hy12, Y.cl, Y.nP, rfl, _, _, rfl, SqT.of hp312, fun D hD => dcT_it walk_enumT (fun i H' => Same H12 H' ∧ ∃ kvs, H' D = some (.dT kvs) ∧ kvs.length ≤ i ∧ ∀ (j : Nat) (p : Pipe), j < i → (srt ps)[j]? = some p → valV kvs (kL2 (pe p)) = some (.int (j : Nat))) ⟨same_new hD _, [], upd_same, Nat.le_refl 0, fun j p hj _ => absurd hj (Nat.not_lt_zero _)⟩ (fun i H' _ z => SqT.of (z.1 _ _ hp312)) ?_ ?_⟩
    · rintro i x G1 G2 hi ⟨sm, kvs, hk, lk, ik⟩ ⟨T0, i1, i2, rfl, hT0, rfl, hi1, hi2⟩
      obtain ⟨pi, hpi, tp, rfl, htp⟩ := paired_get pz12 hi2
      have k0 := same_new hT0 (.tup [i1, .ref tp])
      have hil := lt_len hpi
      refine ⟨_, _, rfl, SqT.of upd_same, rfl, _, _, rfl, _, _, rfl, rfl, rfl, tyI ⟨_, rfl, _, rfl, _, _, rfl, SqT.of (k0 _ _ (sm _ _ htp)), nw2, fun q1 hq1 => ⟨_, rfl, ?_⟩⟩⟩
      have k1 := same_new hq1 (.tup [.int pi.2.2.1, .int pi.2.2.2])
      refine ⟨kvs, [.inl (pi.2.2.1 : Int), .inl (pi.2.2.2 : Int)], q1, rfl, upd_same, k1 _ _ (k0 _ _ hk), ?_, same_at ((sm.trans' k0).trans' k1) hD, _, upd_same, ?_⟩
      · exact Nat.lt_of_lt_of_le (show kvs.length < 100000 by omega) (by decide)
      · refine ⟨Nat.le_trans (length_putK _ _ _) (Nat.succ_le_succ lk), fun j p hj ej => ?_⟩
        rw [valV_put]
        by_cases z : j = i
        · subst z
          obtain rfl : p = pi := Option.some.inj (ej.symm.trans hpi)
          rw [if_pos (by rfl)]
          exact hi1.symm
        · rw [if_neg (show ¬ kL2 (pe p) = [.inl (pi.2.2.1 : Int), .inl (pi.2.2.2 : Int)] from fun y => z (nd_at nes ej hpi (kL2_inj (b := pe pi) y)))]
          exact ik j p (by omega) ej
    rintro H13 ⟨s13, kvs1, hk1, _, ik1⟩
    refine ⟨_, rfl, y, CY, dx, _, rfl, s13 _ _ hy12, Y.cl, Y.nI, Nat.lt_of_lt_of_le (Nat.lt_succ_self 4) (by decide : 5 ≤ 1000), ?_⟩
    rw [putF_new ["own_stations", "own_pipes", "own_exits", "own_begin"] rfl (by decide +kernel)]
    obtain ⟨H14, hH14⟩ : ∃ H14, H14 = upd H13 y (.ins CY dx ([(("own_stations" : Str), V.ref p1), (("own_pipes" : Str), V.ref p3), (("own_exits" : Str), V.ref c), (("own_begin" : Str), V.ref d)] ++ [(("own_into" : Str), V.ref D)])) := ⟨_, rfl⟩
    have b1214 : But y H12 H14 := by rw [hH14]; exact (But.of s13).trans But.at
    have nyD : D ≠ y := (ne_of_none hy12 hD).symm
    have hk14 : H14 D = some (.dT kvs1) := by rw [hH14, upd_ne nyD]; exact hk1
    have hy14 : H14 y = some (.ins CY dx [("own_stations", .ref p1), ("own_pipes", .ref p3), ("own_exits", .ref c), ("own_begin", .ref d), ("own_into", .ref D)]) := by rw [hH14, upd_same]; rfl
    rw [← hH14]
    clear hH14
    have t1214 := b1214.tups hy12
    have hp314 := t1214 _ _ hp312
    have pz14 := pipe_all t1214 pz12
    -- own_onto
    refine ⟨_, rfl, y, CY, dx, _, _, rfl, hy14, Y.cl, Y.nP, rfl, _, _, rfl, SqT.of hp314, fun D2 hD2 => dcT_it walk_enumT (fun i H' => Same H14 H' ∧ ∃ kvs, H' D2 = some (.dT kvs) ∧ kvs.length ≤ i ∧ (i ≠ 0 → kvs ≠ []) ∧ ∀ (j : Nat) (p : Pipe), j < i → (srt ps)[j]? = some p → ∃ a, valV kvs (kL2 (pb p)) = some (.ref a) ∧ H' a = some (.tup [.bl true, .int (j : Nat)])) ⟨same_new hD2 _, [], upd_same, Nat.le_refl 0, fun z => absurd rfl z, fun j p hj _ => absurd hj (Nat.not_lt_zero _)⟩ (fun i H' _ z => SqT.of (z.1 _ _ hp314)) ?_ ?_⟩
    · rintro i x G1 G2 hi ⟨sm, kvs, hk, lk, _, ok2⟩ ⟨T0, i1, i2, rfl, hT0, rfl, hi1, hi2⟩
      obtain ⟨pi, hpi, tp, rfl, htp⟩ := paired_get pz14 hi2
      have k0 := same_new hT0 (.tup [i1, .ref tp])
      have hil := lt_len hpi
      refine ⟨_, _, rfl, SqT.of upd_same, rfl, _, _, rfl, _, _, rfl, rfl, rfl, tyI ⟨_, rfl, _, rfl, _, _, rfl, SqT.of (k0 _ _ (sm _ _ htp)), nwe, fun q1 hq1 => ⟨_, rfl, sz rfl, fun q2 hq2 => ?_⟩⟩⟩
      have k1 := same_new hq1 (.tup [.int pi.1, .int pi.2.1])
      have k2' := same_new hq2 (.tup [.bl true, i1])
      refine ⟨kvs, [.inl (pi.1 : Int), .inl (pi.2.1 : Int)], q1, rfl, k2' _ _ upd_same, k2' _ _ (k1 _ _ (k0 _ _ hk)), ?_, same_at (((sm.trans' k0).trans' k1).trans' k2') hD2, _, upd_same, ?_, fun _ => putK_ne _ _ _, fun j p hj ej => ?_⟩
      · exact Nat.lt_of_lt_of_le (show kvs.length < 100000 by omega) (by decide)
      · exact Nat.le_trans (length_putK _ _ _) (Nat.succ_le_succ lk)
      · rw [valV_put]
        have nk : ∀ b xs, G1 b = some (.tup xs) → upd (upd (upd (upd G1 T0 (.tup [i1, .ref tp])) q1 (.tup [.int pi.1, .int pi.2.1])) q2 (.tup [.bl true, i1])) D2 (.dT (putK kvs [.inl (pi.1 : Int), .inl (pi.2.1 : Int)] (.ref q2))) b = some (.tup xs) := fun b xs e => by
          rw [upd_ne (fun z => by rw [z, hk] at e; cases e)]
          exact k2' _ _ (k1 _ _ (k0 _ _ e))
        by_cases z : j = i
        · subst z
          obtain rfl : p = pi := Option.some.inj (ej.symm.trans hpi)
          rw [if_pos (by rfl)]
          refine ⟨q2, rfl, ?_⟩
          rw [upd_ne (ne_of_none (k1 _ _ (k0 _ _ hk)) hq2).symm, upd_same]
          exact congrArg (fun z => some (HO.tup [.bl true, z])) (Option.some.inj hi1).symm
        · rw [if_neg (show ¬ kL2 (pb p) = [.inl (pi.1 : Int), .inl (pi.2.1 : Int)] from fun y => z (nd_at nbs ej hpi (kL2_inj (b := pb pi) y)))]
          obtain ⟨a, x, y⟩ := ok2 j p (by omega) ej
          exact ⟨a, x, nk _ _ y⟩
    rintro H15 ⟨s15, kvs2, hk2, lk2, nk2, on2⟩
    refine ⟨_, rfl, y, CY, dx, _, rfl, s15 _ _ hy14, Y.cl, Y.nO, Nat.lt_of_lt_of_le (Nat.lt_succ_self 5) (by decide : 6 ≤ 1000), ?_⟩
    rw [putF_new ["own_stations", "own_pipes", "own_exits", "own_begin", "own_into"] rfl (by decide +kernel)]
    obtain ⟨H16, hH16⟩ : ∃ H16, H16 = upd H15 y (.ins CY dx ([(("own_stations" : Str), V.ref p1), (("own_pipes" : Str), V.ref p3), (("own_exits" : Str), V.ref c), (("own_begin" : Str), V.ref d), (("own_into" : Str), V.ref D)] ++ [(("own_onto" : Str), V.ref D2)])) := ⟨_, rfl⟩
    have b1516 : But y H15 H16 := by rw [hH16]; exact But.at
    have b1416 : But y H14 H16 := (But.of s15).trans b1516
    have hy16 : H16 y = some (.ins CY dx (yflds p1 p3 c d D D2)) := by rw [hH16, upd_same]; rfl
    have ny2 : D2 ≠ y := fun z => by rw [z, hy14] at hD2; cases hD2
    have hk16 : H16 D2 = some (.dT kvs2) := b1516 _ _ ny2 hk2
    rw [← hH16]
    clear hH16
    have t1416 := b1416.tups hy14
    have hc16 := t1416 _ _ (t1214 _ _ hc12)
    have pe16 := pr_all t1416 (pr_all t1214 pe12)
    -- own_onto.update(..)
    have nex : (exitsOf ts ps).Nodup := (lines_nodup 0 ts).filter _
    refine ⟨_, rfl, y, CY, dx, _, _, rfl, hy16, Y.cl, Y.nO, rfl, .inr (.inr (.inl ⟨rfl, .inr ⟨_, hk16⟩⟩)), _, rfl, y, CY, dx, _, _, rfl, hy16, Y.cl, Y.nX, rfl, _, _, rfl, SqT.of hc16, fun D3 hD3 => dcT_it walk_enumT (fun i H' => Same H16 H' ∧ ∃ kvs, H' D3 = some (.dT kvs) ∧ kvs.length ≤ i ∧ ExA H' kvs (exitsOf ts ps) i) ⟨same_new hD3 _, [], upd_same, Nat.le_refl 0, by simp, fun j l hj _ => absurd hj (Nat.not_lt_zero _)⟩ (fun i H' _ z => SqT.of (z.1 _ _ hc16)) ?_ ?_⟩
    · rintro i x G1 G2 hi ⟨sm, kvs, hk, lk, xk⟩ ⟨T0, i1, i2, rfl, hT0, rfl, hi1, hi2⟩
      obtain ⟨l, hl, tp, rfl, htp⟩ := paired_get pe16 hi2
      have k0 := same_new hT0 (.tup [i1, .ref tp])
      have hil := lt_len hl
      refine ⟨_, _, rfl, SqT.of upd_same, rfl, _, _, rfl, _, _, rfl, rfl, rfl, tyI ⟨_, rfl, _, rfl, sz rfl, fun q2 hq2 => ?_⟩⟩
      have k2' := same_new hq2 (.tup [.bl false, i1])
      refine ⟨kvs, [.inl (l.1 : Int), .inl (l.2 : Int)], tp, rfl, k2' _ _ (k0 _ _ (sm _ _ htp)), k2' _ _ (k0 _ _ hk), ?_, same_at ((sm.trans' k0).trans' k2') hD3, _, upd_same, ?_⟩
      · exact Nat.lt_of_lt_of_le (show kvs.length < 100000 by omega) (by decide)
      · refine ⟨Nat.le_trans (length_putK _ _ _) (Nat.succ_le_succ lk), ?_⟩
        have nk : Tups G1 (upd (upd (upd G1 T0 (.tup [i1, .ref tp])) q2 (.tup [.bl false, i1])) D3 (.dT (putK kvs [.inl (l.1 : Int), .inl (l.2 : Int)] (.ref q2)))) := fun b xs e => by
          rw [upd_ne (fun z => by rw [z, hk] at e; cases e)]
          exact k2' _ _ (k0 _ _ e)
        refine (xk.keep nk).step nex hl ?_
        rw [upd_ne (ne_of_none (k0 _ _ hk) hq2).symm, upd_same]
        exact congrArg (fun z => some (HO.tup [.bl false, z])) (Option.some.inj hi1).symm
    rintro H17 ⟨s17, kvs3, hk3, lk3, xk3⟩
    have n23 : D2 ≠ D3 := fun z => by rw [← z, hk16] at hD3; cases hD3
    refine ⟨D2, D3, kvs2, kvs3, rfl, rfl, n23, s17 _ _ hk16, hk3, ?_, by omega, ?_⟩
    · by_cases hps : ps = []
      · refine .inr (.inr ?_)
        obtain ⟨t0, et0⟩ : ∃ t0, ts = [t0] := by
          have sm := ok.sm
          rw [hps] at sm
          match ts, m1, sm, ok.ok with
          | [t0], _, _, _ => exact ⟨t0, rfl⟩
          | t0 :: t1 :: r, _, sm, ook =>
            have i0 := (ook t0 (by simp)).i1
            have i1 := (ook t1 (by simp)).i1
            simp only [sumIns, List.length_nil] at sm
            omega
        exact two_keys et0 (ok.ok t0 (by rw [et0]; simp)).o2 hps xk3 le6
      · refine .inl (nk2 ?_)
        rw [lz, lsrt]
        exact fun z => hps (List.eq_nil_of_length_eq_zero z)
    have b18 : ∀ o, But D2 H17 (upd H17 D2 o) := fun o => But.at
    have t1618 : ∀ o b xs, H16 b = some (.tup xs) → upd H17 D2 o b = some (.tup xs) := fun o b xs e => by
      rw [upd_ne (fun z => by rw [z, hk16] at e; cases e)]
      exact s17 _ _ e
    have b1618 : ∀ o, But y H14 (upd H17 D2 o) := fun o b u n e => by
      rw [upd_ne (ne_of_none e hD2)]
      exact s17 _ _ (b1416 b u n e)
    have bfin : ∀ o, But y H (upd H17 D2 o) := fun o => (b12.trans b1214).trans (b1618 o)
    have t1218 : ∀ o, Tups H12 (upd H17 D2 o) := fun o b xs e => t1618 o _ _ (t1416 _ _ (t1214 _ _ e))
    have hyE : ∀ o, upd H17 D2 o y = some (.ins CY dx (yflds p1 p3 c d D D2)) := fun o => by
      rw [upd_ne (Ne.symm ny2)]
      exact s17 _ _ hy16
    refine q _ (bfin _) ⟨⟨dx, p1, p3, c, d, D, D2, ?_, ⟨us, t1218 _ _ _ (t612 _ _ hp16), stn_but (bfin _) hy pr⟩, ⟨zs, t1218 _ _ _ hp312, pipe_all (t1218 _) pz12⟩, ⟨es, t1218 _ _ _ hc12, pr_all (t1218 _) pe12⟩⟩, ?_⟩ ⟨dx, p1, p3, c, d, D, D2, hyE _, bg12.keep (t1218 _)⟩
    · rw [upd_ne (Ne.symm ny2)]
      exact s17 _ _ hy16
    · refine ⟨dx, p1, p3, c, d, D, D2, kvs1, _, ?_, ?_, fun j p e => ik1 j p ?_ e, upd_same, onto_upd nex ?_ (fun j p e => ?_) ?_⟩
      · rw [upd_ne (Ne.symm ny2)]
        exact s17 _ _ hy16
      · rw [upd_ne (ne_of_none hk14 hD2)]
        exact s17 _ _ (b1416 _ _ nyD hk14)
      · rw [lz]; exact (List.getElem?_eq_some_iff.mp e).1
      · intro p hp hx
        have := (List.mem_filter.mp hx).2
        simp only [Bool.not_eq_true', decide_eq_false_iff_not] at this
        exact this (List.mem_map_of_mem ((srt_perm ps).mem_iff.mp hp))
      · obtain ⟨a, x, y⟩ := on2 j p (by rw [lz]; exact (List.getElem?_eq_some_iff.mp e).1) e
        exact ⟨a, x, t1618 _ _ _ (b1516.tups (s15 _ _ hy14) _ _ y)⟩
      · have := xk3
        rw [le6] at this
        refine this.keep fun b xs e => ?_
        rw [upd_ne (fun z => by rw [z, s17 _ _ hk16] at e; cases e)]
        exact e
end
end FY


set_option Elab.async false
set_option linter.all false
set_option maxRecDepth 100000
set_option maxHeartbeats 4000000
namespace FY
open PySem L2 FYR
theorem YdA.nl {CY C : Addr} {H H' : Hp} (k : NL H H') {y : Addr} {ts : List Stn} {ps : List Pipe} (h : YdA CY C H y ts ps) : YdA CY C H' y ts ps := by
  obtain ⟨⟨dx, a, b, c, d, e, f, hy, ⟨us, ha, pus⟩, ⟨ws, hb, pws⟩, ⟨es, hc, pes⟩⟩, ⟨dx', a', b', c', d', e', f', kv, kw, h1, h2, h3, h4, h5⟩⟩ := h
  exact ⟨⟨dx, a, b, c, d, e, f, k _ _ (fun _ z => nomatch z) (fun _ z => nomatch z) hy, ⟨us, k.tups _ _ ha, stn_all k pus⟩, ⟨ws, k.tups _ _ hb, pipe_all k.tups pws⟩, ⟨es, k.tups _ _ hc, pr_all k.tups pes⟩⟩, ⟨dx', a', b', c', d', e', f', kv, kw, k _ _ (fun _ z => nomatch z) (fun _ z => nomatch z) h1, k _ _ (fun _ z => nomatch z) (fun _ z => nomatch z) h2, h3, k _ _ (fun _ z => nomatch z) (fun _ z => nomatch z) h4, h5.keep k.tups⟩⟩
def spYS (CY C : Addr) : Sp := fun vs H Q _ => ∃ (y : Addr) (ts : List Stn) (ps : List Pipe), vs = [.ref y] ∧ YdA CY C H y ts ps ∧ ∀ p us, H p = none → Paired (StnA C H) us ts → Q (.ref p) (upd H p (.lst us))
def spYP (CY C : Addr) : Sp := fun vs H Q _ => ∃ (y : Addr) (ts : List Stn) (ps : List Pipe), vs = [.ref y] ∧ YdA CY C H y ts ps ∧ ∀ p ws, H p = none → Paired (PipeA H) ws (srt ps) → Q (.ref p) (upd H p (.lst ws))
def spYE (CY C : Addr) : Sp := fun vs H Q _ => ∃ (y : Addr) (ts : List Stn) (ps : List Pipe), vs = [.ref y] ∧ YdA CY C H y ts ps ∧ ∀ p es, H p = none → Paired (PrA H) es (exitsOf ts ps) → Q (.ref p) (upd H p (.lst es))
def spYL (CY C : Addr) : Sp := fun vs H Q _ => ∃ (y : Addr) (ts : List Stn) (ps : List Pipe), vs = [.ref y] ∧ YdA CY C H y ts ps ∧ Q (.int (ts.length : Nat)) H
theorem YdBg.nl {CY : Addr} {H H' : Hp} (k : NL H H') {y : Addr} {bg : Bg} (h : YdBg CY H y bg) : YdBg CY H' y bg := by
  obtain ⟨dx, a, b, c, d, e, f, hy, g⟩ := h
  exact ⟨dx, a, b, c, d, e, f, k _ _ (fun _ z => nomatch z) (fun _ z => nomatch z) hy, g.keep k.tups⟩
section
variable {P : Program} {w : World} {K : PySem.W.Frag} {mg : Str → Option Value} {base : Heap} {aS a1 a2 aL aT : Addr} {f : Addr} {fd : FuncData} {C CD CY : Addr} {mc : Value}
abbrev s_Yard_stations : Stmt := inClass (top 42) 3
abbrev N_Yard_stations : List Str := ["self"]
theorem sc_Yard_stations : FnScope N_Yard_stations ["self"] (defScope s_Yard_stations) := ⟨rfl, rfl, rfl, by decide +kernel, rfl, by decide +kernel, by decide +kernel⟩
theorem ok_Yard_stations (F : Fun K "stations" "Yard.stations" s_Yard_stations f fd) (T : Txt K mg aS a1 a2) (Y : YdF K CY) : FnOk P w K mg base CX0 1 f fd ["self"] (spYS CY C) := by
  refine F.ok sc_Yard_stations (fun vs H Q E h => ?_) (fun cdv A outer s H vs Q E hr h => ?_)
  · obtain ⟨y, ts, ps, rfl, _⟩ := h
    rfl
  obtain ⟨y, ts, ps, rfl, ⟨⟨dx, a, b, c, d, e, f, hy, ⟨us, ha, pus⟩, ⟨ws, hb, pws⟩, ⟨es, hc, pes⟩⟩, _⟩, q⟩ := h
  refine ⟨_, (pss_one (ps_ret (pe_callTy (kListOf K rfl) rfl T.b_list bt_list (pa_cons (kFld K rfl (pv 0)) pa_nil)))), ?_⟩
  exact ⟨_, rfl, y, CY, dx, _, _, rfl, hy, Y.cl, Y.nS, rfl, _, _, rfl, .inr (SqT.of ha), fun p hp => q p us hp pus⟩
abbrev s_Yard_pipes : Stmt := inClass (top 42) 4
abbrev N_Yard_pipes : List Str := ["self"]
theorem sc_Yard_pipes : FnScope N_Yard_pipes ["self"] (defScope s_Yard_pipes) := ⟨rfl, rfl, rfl, by decide +kernel, rfl, by decide +kernel, by decide +kernel⟩
theorem ok_Yard_pipes (F : Fun K "pipes" "Yard.pipes" s_Yard_pipes f fd) (T : Txt K mg aS a1 a2) (Y : YdF K CY) : FnOk P w K mg base CX0 1 f fd ["self"] (spYP CY C) := by
  refine F.ok sc_Yard_pipes (fun vs H Q E h => ?_) (fun cdv A outer s H vs Q E hr h => ?_)
  · obtain ⟨y, ts, ps, rfl, _⟩ := h
    rfl
  obtain ⟨y, ts, ps, rfl, ⟨⟨dx, a, b, c, d, e, f, hy, ⟨us, ha, pus⟩, ⟨ws, hb, pws⟩, ⟨es, hc, pes⟩⟩, _⟩, q⟩ := h
  refine ⟨_, (pss_one (ps_ret (pe_callTy (kListOf K rfl) rfl T.b_list bt_list (pa_cons (kFld K rfl (pv 0)) pa_nil)))), ?_⟩
  exact ⟨_, rfl, y, CY, dx, _, _, rfl, hy, Y.cl, Y.nP, rfl, _, _, rfl, .inr (SqT.of hb), fun p hp => q p ws hp pws⟩
abbrev s_Yard_exits : Stmt := inClass (top 42) 6
abbrev N_Yard_exits : List Str := ["self"]
theorem sc_Yard_exits : FnScope N_Yard_exits ["self"] (defScope s_Yard_exits) := ⟨rfl, rfl, rfl, by decide +kernel, rfl, by decide +kernel, by decide +kernel⟩
theorem ok_Yard_exits (F : Fun K "exits" "Yard.exits" s_Yard_exits f fd) (T : Txt K mg aS a1 a2) (Y : YdF K CY) : FnOk P w K mg base CX0 1 f fd ["self"] (spYE CY C) := by
  refine F.ok sc_Yard_exits (fun vs H Q E h => ?_) (fun cdv A outer s H vs Q E hr h => ?_)
  · obtain ⟨y, ts, ps, rfl, _⟩ := h
    rfl
  obtain ⟨y, ts, ps, rfl, ⟨⟨dx, a, b, c, d, e, f, hy, ⟨us, ha, pus⟩, ⟨ws, hb, pws⟩, ⟨es, hc, pes⟩⟩, _⟩, q⟩ := h
  refine ⟨_, (pss_one (ps_ret (pe_callTy (kListOf K rfl) rfl T.b_list bt_list (pa_cons (kFld K rfl (pv 0)) pa_nil)))), ?_⟩
  exact ⟨_, rfl, y, CY, dx, _, _, rfl, hy, Y.cl, Y.nX, rfl, _, _, rfl, .inr (SqT.of hc), fun p hp => q p es hp pes⟩
theorem ok_Yard_len (F : Fun K "__len__" "Yard.__len__" s_Yard___len__ f fd) (T : Txt K mg aS a1 a2) (Y : YdF K CY) : FnOk P w K mg base CX0 1 f fd ["self"] (spYL CY C) := by
  refine F.ok sc_Yard___len__ (fun vs H Q E h => ?_) (fun cdv A outer s H vs Q E hr h => ?_)
  · obtain ⟨y, ts, ps, rfl, _⟩ := h
    rfl
  obtain ⟨y, ts, ps, rfl, ⟨⟨dx, a, b, c, d, e, f, hy, ⟨us, ha, pus⟩, ⟨ws, hb, pws⟩, ⟨es, hc, pes⟩⟩, _⟩, q⟩ := h
  refine ⟨_, (pss_one (ps_ret (pe_callB (kLen K rfl) rfl T.b_len bt_len (pa_cons (kFld K rfl (pv 0)) pa_nil)))), ?_⟩
  refine ⟨_, rfl, y, CY, dx, _, _, rfl, hy, Y.cl, Y.nS, rfl, _, _, rfl, .inr (SqT.of ha), ?_⟩
  rw [paired_len pus]
  exact q
end
end FY


set_option Elab.async false
set_option linter.all false
set_option maxRecDepth 100000
set_option maxHeartbeats 4000000
namespace FY
/-! ### a plan that grows: stations, pipes, free out-lines; j in-lines of the next station have their pipes -/
structure PlM (ts : List Stn) (ps : List Pipe) (fr : List (Nat × Nat)) (j : Nat) : Prop where
  okk : ∀ t ∈ ts, t.ok
  beg : (ps.map pb ++ fr).Perm (linesFrom 0 ts)
  cnt : ps.length + min 1 ts.length = sumIns ts + j
  far : ∀ p ∈ ps, p.1 < p.2.2.1 ∧ ((∃ t, ts[p.2.2.1]? = some t ∧ p.2.2.2 < t.ins) ∨ (p.2.2.1 = ts.length ∧ p.2.2.2 < j))
  ends : (ps.map pe).Nodup
  hd : ∀ t, ts.head? = some t → t.ins = 1
theorem er_perm {α : Type} : ∀ (l : List α) (k : Nat) (x : α), l[k]? = some x → l.Perm (x :: l.eraseIdx k)
  | [], k, x, h => by simp at h
  | a :: r, 0, x, h => by simp at h; subst h; exact List.Perm.refl _
  | a :: r, k + 1, x, h => by
    have := er_perm r k x (by simpa using h)
    exact (this.cons a).trans (List.Perm.swap x a _)
theorem PlM.start : PlM [] [] [] 0 := ⟨by simp, by simp [linesFrom], rfl, by simp, by simp, by simp⟩
theorem PlM.pop {ts : List Stn} {ps : List Pipe} {fr : List (Nat × Nat)} {j k : Nat} {l : Nat × Nat} (h : PlM ts ps fr j) (hk : fr[k]? = some l) : PlM ts (ps ++ [(l.1, l.2, ts.length, j)]) (fr.eraseIdx k) (j + 1) := by
  obtain ⟨kl, ek⟩ := List.getElem?_eq_some_iff.mp hk
  have pf : fr.Perm (l :: fr.eraseIdx k) := er_perm fr k l hk
  have lm : l ∈ linesFrom 0 ts := h.beg.mem_iff.mp (List.mem_append_right _ (List.mem_of_getElem? hk))
  obtain ⟨i, t, hi, e1, e2⟩ := mem_lines lm
  have il := (List.getElem?_eq_some_iff.mp hi).1
  refine ⟨h.okk, ?_, ?_, fun p hp => ?_, ?_, h.hd⟩
  · refine List.Perm.trans ?_ h.beg
    rw [List.map_append, List.append_assoc]
    exact List.Perm.append_left _ pf.symm
  · have := h.cnt
    simp only [List.length_append, List.length_singleton]
    omega
  · rcases List.mem_append.mp hp with hp | hp
    · obtain ⟨a, b⟩ := h.far p hp
      refine ⟨a, b.imp id fun ⟨x, y⟩ => ⟨x, by omega⟩⟩
    · rw [List.mem_singleton.mp hp]
      exact ⟨by show l.1 < ts.length; omega, .inr ⟨rfl, Nat.lt_succ_self j⟩⟩
  · rw [List.map_append, List.nodup_append]
    refine ⟨h.ends, by simp, fun a ha b hb e => ?_⟩
    obtain ⟨p, hp, rfl⟩ := List.mem_map.mp ha
    rw [List.map_singleton, List.mem_singleton] at hb
    rw [hb] at e
    have e1 : p.2.2.1 = ts.length := (Prod.mk.inj e).1
    have e2 : p.2.2.2 = j := (Prod.mk.inj e).2
    rcases (h.far p hp).2 with ⟨t', ht', _⟩ | ⟨_, z⟩
    · have := (List.getElem?_eq_some_iff.mp ht').1
      omega
    · omega
theorem PlM.close {ts : List Stn} {ps : List Pipe} {fr : List (Nat × Nat)} {j : Nat} {t : Stn} (h : PlM ts ps fr j) (ht : t.ok) (hi : t.ins = if ts.length = 0 then 1 else j) (h0 : ts.length = 0 → j = 0) : PlM (ts ++ [t]) ps (fr ++ (List.range t.outs).map fun k => (ts.length, k)) 0 := by
  refine ⟨fun u hu => ?_, ?_, ?_, fun p hp => ?_, h.ends, fun u hu => ?_⟩
  · rcases List.mem_append.mp hu with hu | hu
    · exact h.okk u hu
    · rw [List.mem_singleton.mp hu]; exact ht
  · rw [linesFrom_app, ← List.append_assoc]
    refine List.Perm.append h.beg ?_
    simp [linesFrom]
  · have := h.cnt
    have sa : ∀ us : List Stn, sumIns (us ++ [t]) = sumIns us + t.ins := fun us => by rw [sumIns_app]; simp [sumIns]
    rw [sa]
    simp only [List.length_append, List.length_singleton]
    split at hi <;> omega
  · obtain ⟨a, b⟩ := h.far p hp
    refine ⟨a, .inl ?_⟩
    rcases b with ⟨u, hu, lu⟩ | ⟨e, lj⟩
    · exact ⟨u, by rw [List.getElem?_append_left (List.getElem?_eq_some_iff.mp hu).1]; exact hu, lu⟩
    · refine ⟨t, by rw [e]; simp, ?_⟩
      split at hi <;> omega
  · cases ts with
    | nil =>
      have : t = u := by simpa using hu
      subst this
      simpa using hi
    | cons v r => exact h.hd u (by simpa using hu)
theorem ins_le {ts : List Stn} (h : ∀ t ∈ ts, t.ok) : sumIns ts ≤ 2 * ts.length := by
  induction ts with
  | nil => exact Nat.le_refl 0
  | cons t r ih =>
    have := ih fun z hz => h z (List.mem_cons_of_mem _ hz)
    have := (h t (List.mem_cons_self ..)).i2
    simp only [sumIns, List.length_cons]
    omega
theorem PlM.yd {ts : List Stn} {ps : List Pipe} {fr : List (Nat × Nat)} (h : PlM ts ps fr 0) (m1 : 1 ≤ ts.length) (m2 : ts.length ≤ 12) (lf : fr.length ≤ 3) : YdOk ts (srt ps) := by
  have mem : ∀ p, p ∈ srt ps ↔ p ∈ ps := fun p => (srt_perm ps).mem_iff
  have nd : (ps.map pb ++ fr).Nodup := h.beg.symm.nodup (lines_nodup 0 ts)
  obtain ⟨nb, _, dis⟩ := List.nodup_append.mp nd
  have lp : (srt ps).length = ps.length := (srt_perm ps).length_eq
  have cn := h.cnt
  have il := ins_le h.okk
  refine ⟨m1, m2, h.hd, h.okk, fun p hp => ?_, ((srt_perm ps).map pb).symm.nodup nb, ((srt_perm ps).map pe).symm.nodup h.ends, by omega, by omega, ?_⟩
  · have hp' := (mem p).mp hp
    obtain ⟨a, b⟩ := h.far p hp'
    have hm : pb p ∈ linesFrom 0 ts := h.beg.mem_iff.mp (List.mem_append_left _ (List.mem_map_of_mem hp'))
    obtain ⟨i, t1, g1, e1, b1⟩ := mem_lines hm
    have e1' : p.1 = i := by rw [Nat.zero_add] at e1; exact e1
    subst e1'
    refine ⟨a, ⟨t1, g1, b1, (h.okk t1 (List.mem_of_getElem? g1)).o2⟩, ?_⟩
    rcases b with ⟨t2, g2, b2⟩ | ⟨_, z⟩
    · exact ⟨t2, g2, b2, (h.okk t2 (List.mem_of_getElem? g2)).i2⟩
    · omega
  · unfold exitsOf
    have e := (h.beg.filter fun l => !decide (l ∈ (srt ps).map pb)).length_eq
    rw [← e, List.filter_append, List.filter_eq_nil_iff.mpr (by
      intro a ha
      have : a ∈ (srt ps).map pb := ((srt_perm ps).map pb).mem_iff.mpr ha
      simp [this])]
    exact Nat.le_trans (List.length_filter_le _ _) lf
theorem srt_srt {ps : List Pipe} (hs : ∀ p ∈ ps, SmP p) : srt (srt ps) = srt ps := (srt_eq hs ((srt_perm _).trans (srt_perm ps)) (by
  have z := List.pairwise_mergeSort (le := fun a b => decide (codeP a ≤ codeP b)) (fun a b c h1 h2 => by simp at *; omega) (fun a b => by simp; omega) (srt ps)
  exact z.imp fun h => by simpa using h))
end FY

set_option Elab.async false
set_option linter.all false
set_option maxRecDepth 100000
set_option maxHeartbeats 4000000
namespace FYR
open PySem PySem.Spec PyProof.Rows L2
/-! ### dict(xs): a list of pairs whose first items are tuples -/
/-- a pair: its address, its key's address, the key, the value -/
abbrev PE4 := Addr × Addr × List Key × V
def PrE (H : Hp) (e : PE4) : Prop := H e.1 = some (.tup [.ref e.2.1, e.2.2.2]) ∧ H e.2.1 = some (.tup (e.2.2.1.map kV))
def foldP (es : List PE4) : List (List Key × V) := (es.map fun e => (e.2.2.1, e.2.2.2)).foldl (fun acc p => putK acc p.1 p.2) []
def rDictP : List V → Hp → VK → Prop := fun vs H Q => ∃ (a : Addr) (es : List PE4), vs = [.ref a] ∧ H a = some (.lst (es.map fun e => .ref e.1)) ∧ (∀ e ∈ es, PrE H e) ∧ ∀ p, H p = none → Q (.ref p) (upd H p (.dT (foldP es)))
theorem pairs_of {X : Cx} {pins : List (Addr × Obj)} {σ : L2.St} {H : Hp} {s : Shared} (I : Inv X pins σ H s) : ∀ es : List PE4, (∀ e ∈ es, PrE H e) → ∃ us : List Value, Paired (fun (e : PE4) u => s.heap.IsTuple e.1 #[.ref e.2.1, u] ∧ RelV e.2.2.2 u) es us
  | [], _ => ⟨[], .nil⟩
  | e :: r, h => by
    obtain ⟨us, p⟩ := pairs_of I r fun z hz => h z (List.mem_cons_of_mem _ hz)
    obtain ⟨h1, h2⟩ := h e (List.mem_cons_self ..)
    obtain ⟨its, rv, it, _⟩ := I.tuple (SqT.of h1)
    cases rv with
    | cons r1 t =>
      cases t with
      | cons r2 t2 =>
        cases t2
        cases r1
        exact ⟨_ :: us, .cons ⟨it, r2⟩ p⟩
theorem pr_at {α β : Type} {R : α → β → Prop} {a : List α} {b : List β} (h : Paired R a b) {i : Nat} {y : β} (hy : b[i]? = some y) : ∃ x, a[i]? = some x ∧ R x y := by
  induction h generalizing i with
  | nil => simp at hy
  | cons r q ih =>
    cases i with
    | zero => simp at hy; subst hy; exact ⟨_, rfl, r⟩
    | succ i => exact ih hy
theorem vals_ref : ∀ {es : List PE4} {its : List Value}, Vals (es.map fun e => V.ref e.1) its → its = es.map fun e => Value.ref e.1
  | [], _, h => by cases h; rfl
  | e :: r, _, h => by
    cases h with
    | cons r1 t =>
      cases r1
      rw [List.map_cons, ← vals_ref t]
theorem kt_pairs {H : Hp} {h : Heap} : ∀ {es : List PE4} {us : List Value}, (∀ e ∈ es, PrE H e) → Paired (fun (e : PE4) u => h.IsTuple e.1 #[.ref e.2.1, u] ∧ RelV e.2.2.2 u) es us → KT H (es.map fun e => (e.2.2.1, e.2.2.2)) (List.zipWith (fun (e : PE4) u => (e.2.2.1, e.2.1, u)) es us)
  | _, _, _, .nil => .nil
  | _, _, he, .cons r t => .cons ⟨rfl, (he _ (List.mem_cons_self ..)).2, r.2⟩ (kt_pairs (fun e h => he e (List.mem_cons_of_mem _ h)) t)
theorem call_dictP {X : Cx} (hc : X.calm = true) (hu : X.A.units + 2 < cLine) : CallR X (.type "dict") rDictP := by
  intro pins s σ H xs us Q I r h
  obtain ⟨a, es, rfl, ha, he, q⟩ := h
  obtain ⟨u, rfl, rx⟩ := r.one
  cases rx
  obtain ⟨us, pr⟩ := pairs_of I es he
  obtain ⟨its, rv, ⟨o, n, ho, hcl, hd, hdat⟩, hsz⟩ := I.list (SqL.of ha)
  have ei := vals_ref rv
  have lu : es.length = us.length := Paired.length pr
  rw [List.length_map] at hsz
  have kt := kt_pairs he pr
  have lz : (List.zipWith (fun (e : PE4) u => (e.2.2.1, e.2.1, u)) es us).length = es.length := by rw [List.length_zipWith]; omega
  let ps : List (Value × Value) := List.zipWith (fun (e : PE4) u => (Value.ref e.2.1, u)) es us
  have lps : ps.length = es.length := by show (List.zipWith _ es us).length = _; rw [List.length_zipWith]; omega
  have get : ∀ (j : Nat) (k v : Value), ps[j]? = some (k, v) → ∃ e, es[j]? = some e ∧ us[j]? = some v ∧ k = Value.ref e.2.1 := by
    intro j k v hj
    have hj' : (List.zipWith (fun (e : PE4) u => (Value.ref e.2.1, u)) es us)[j]? = some (k, v) := hj
    rw [List.getElem?_zipWith] at hj'
    cases h1 : es[j]? with
    | none => rw [h1] at hj'; simp at hj'
    | some e =>
      cases h2 : us[j]? with
      | none => rw [h1, h2] at hj'; simp at hj'
      | some v' =>
        rw [h1, h2] at hj'
        have := Option.some.inj hj'
        exact ⟨e, rfl, by rw [← (Prod.mk.inj this).2], (Prod.mk.inj this).1.symm⟩
  have pit : PairItems s.heap its.toArray (fun j => ((es[j]?).map (·.1)).getD 0) ps := by
    refine ⟨by rw [lps, ei]; simp, fun j k v hj => ?_⟩
    obtain ⟨e, h1, h2, rfl⟩ := get j k v hj
    obtain ⟨e', h1', rr⟩ := pr_at pr h2
    obtain rfl : e = e' := Option.some.inj (h1.symm.trans h1')
    refine ⟨?_, ?_⟩
    · rw [ei, List.getElem?_toArray, List.getElem?_map, h1]
      show some (Value.ref e.1) = some (Value.ref (((es[j]?).map (·.1)).getD 0))
      rw [h1]
      rfl
    · show PairAt s.heap (((es[j]?).map (·.1)).getD 0) _ _
      rw [h1]
      exact .inl rr.1
  refine call_dict_pairsH (knd := tupleKind (mixKind X.prog X.w)) (ps := List.zipWith (fun (e : PE4) u => (e.2.2.1, e.2.1, u)) es us) (PairArg.list a its.toArray (fun j => ((es[j]?).map (·.1)).getD 0) ps) (I.ok.hd hc) ?_ ⟨⟨o, n, ho, hcl, hd, hdat⟩, pit⟩ ⟨by rw [lz, lps], fun j k v hj => ?_⟩ ?_ (by rw [lps]; exact hsz) fun h' tk dd kp => ?_
  · show X.A.in1.in1.units < cLine
    have : X.A.in1.in1.units = X.A.units + 2 := rfl
    omega
  · obtain ⟨e, h1, h2, rfl⟩ := get j k v hj
    refine ⟨e.2.2.1, e.2.1, ?_, rfl⟩
    rw [List.getElem?_zipWith, h1, h2]
  · intro h' hk x hx
    obtain ⟨j, hj⟩ := List.mem_iff_getElem?.mp hx
    rw [List.getElem?_zipWith] at hj
    cases h1 : es[j]? with
    | none => rw [h1] at hj; simp at hj
    | some e =>
      cases h2 : us[j]? with
      | none => rw [h1, h2] at hj; simp at hj
      | some v' =>
        rw [h1, h2] at hj
        have := Option.some.inj hj
        subst this
        have hk' := key_of I.hok (he e (List.mem_of_getElem? h1)).2
        obtain ⟨o', its', n', g1, g2, g3, g4⟩ := hk'
        exact ⟨o', its', n', hk _ _ (Nat.ne_of_lt (Heap.lt_size g1)) (by simp) g1, g2, g3, g4⟩
  · obtain ⟨oo, es', ep, g1, g2, g3, g4, _, g5⟩ := dd
    have fresh := I.hok.fresh (Nat.le_refl s.heap.objs.size)
    have pl := putAll_len (es.map fun e => (e.2.2.1, e.2.2.2)) []
    rw [List.length_map] at pl
    refine ⟨.ref s.heap.objs.size, _, I.laid (a := s.heap.objs.size) (o := .dT (foldP es)) (fun b u e => kp b u (by simp) e) (Nat.le_refl _) ⟨?_, ?_, _, (KT.putAll kt .nil).keeps (fun c zs ec => ?_), oo, es', ep, g1, g2, g3, g4, g5⟩, rfl, q _ fresh⟩
    · unfold foldP
      have : ([] : List (List Key × V)).length = 0 := rfl
      omega
    · exact (dt_empty (P := X.prog) (w := X.w) (H := H) s.heap I.big).2.1
    · rw [upd_ne (ne_of_none ec fresh)]
      exact ec
end FYR

set_option Elab.async false
set_option linter.all false
namespace FY
def valB (c : List Bool) : Nat := c.foldl (fun n b => 2 * n + b.toNat) 0
end FY

set_option Elab.async false
set_option linter.all false
set_option maxRecDepth 100000
set_option maxHeartbeats 4000000
namespace FYR
open PySem PySem.Spec PyProof.Rows L2 L2.Hx PySem.NumText PySem.Calls
/-! int(signs, 2), signs one or two of 0 and 1 -/
def Bin (x : PySem.Str) (n : Nat) : Prop := ((numSeenOf x).length ≤ 640) ∧ ((int_private% "readNumeral") 0 2 (numSeenOf x) = (int_private% "Numeral.value") (n : Int)) ∧ ((numSeenOf x).length == (numTextOf x).length) = true
theorem gives_bin {x : PySem.Str} {u t : Tok} {n : Nat} (h : Bin x n) :
    Gives (Builtin.«int.__new__» ⟨[.type "int", .str x u, .int 2 t], []⟩) (.int (n : Int)) :=
  .of_wp fun M A E s Q hQ => by
    obtain ⟨hp, g, d, tk, os⟩ := s
    have f1 := F.conv_sub_int
    have f2 := F.madeHere_int
    have f6 : typeOf (.str x u) = pure (.type "str") := rfl
    have hk := Hid.mk h
    clear h
    repeat (any_goals (first
      | assumption
      | ((with_reducible show wpAny _ _ ((int_private% "intFromText") _ _ _) _ _ _); refine wp_textB hk.out.1 hk.out.2.1 hk.out.2.2 ?_)
      | wp_step))
    all_goals first | exact ⟨_, rfl, hQ⟩ | skip
theorem call_bin {prog : Program} {w : World} {A : Around} {E : Value → Shared → Prop} {s : Shared} {Q : Value → Shared → Prop} {x : PySem.Str} {u t : Tok} {n : Nat} (h : Bin x n)
    (hQ : Q (.int (n : Int) s.toks) { s with toks := s.toks + 1 }) : wpAny (model prog w) A (call (.type "int") [.str x u, .int 2 t]) Q E s :=
  callType_new F.called_int F.newNe_int (typeCall_int_2 _ _) (newCall_int_2 _ _) (fun obj => F.initArgs_range_2 obj _ _) F.entry_int_new (gives_bin h).meets (show (Made.int (n : Int)).post _ s from ⟨rfl, hQ⟩)
theorem bin_tx {c : List Bool} (h : c.length = 1 ∨ c.length = 2) : Bin (FY.tx c) (FY.valB c) := by
  rcases h with h | h
  · match c, h with
    | [a], _ => cases a <;> exact ⟨by decide +kernel, by kernel_rfl, by decide +kernel⟩
  · match c, h with
    | [a, b], _ => cases a <;> cases b <;> exact ⟨by decide +kernel, by kernel_rfl, by decide +kernel⟩
def rInt2 : List V → Hp → VK → Prop := fun xs H Q => ∃ c : List Bool, xs = [.str (FY.tx c), .int 2] ∧ (c.length = 1 ∨ c.length = 2) ∧ Q (.int (FY.valB c : Nat)) H
theorem call_int2 {X : Cx} : CallR X (.type "int") rInt2 := by
  intro pins s σ H xs us Q I r h
  obtain ⟨c, rfl, hl, q⟩ := h
  obtain ⟨u, w', rfl, r1, r2⟩ := vals2 r
  obtain ⟨t1, rfl⟩ := r1
  obtain ⟨t2, rfl⟩ := r2
  exact call_bin (bin_tx hl) ⟨.int (FY.valB c : Nat), H, I.tok _, ⟨_, rfl⟩, q⟩
end FYR

set_option Elab.async false
set_option linter.all false
set_option maxRecDepth 100000
set_option maxHeartbeats 4000000
namespace FY
open PySem L2 FYR
/-! ## states of a yard -/
structure Sta where
  sd : List Nat
  ct : List (List Bool)
  rs : List Bool
  fl : List (List Bool)
def Rd.lines : Rd → List Nat | .one => [0] | .two => [1] | .both => [0, 1]
def ixIn (qs : List Pipe) (s l : Nat) : Nat := qs.findIdx fun p => decide (pe p = (s, l))
def txAt (qs : List Pipe) (σ : Sta) (s l : Nat) : List Bool := if (s, l) = (0, 0) then σ.rs else (σ.ct[ixIn qs s l]?).getD []
def sgAt (ts : List Stn) (σ : Sta) (s : Nat) : Sg := ((ts[s]?.getD ⟨1, 1, []⟩).stgs[(σ.sd[s]?).getD 0]?).getD ⟨.one, []⟩
def sigs (ts : List Stn) (qs : List Pipe) (σ : Sta) (s : Nat) : List Bool := ((sgAt ts σ s).reads.lines.map fun l => (txAt qs σ s l).take 1).flatten
def rowS (ts : List Stn) (qs : List Pipe) (σ : Sta) (s : Nat) : Option Rw := if (sigs ts qs σ s).length = (sgAt ts σ s).reads.lines.length then (sgAt ts σ s).rows[valB (sigs ts qs σ s)]? else none
def gvAt (r : Rw) (o : Nat) : List Bool := (r.gives[o]?).getD []
def roomS (qs : List Pipe) (σ : Sta) (s : Nat) (r : Rw) (zs : List Nat) : Bool :=
  (List.range r.gives.length).all fun o => match qs.findIdx? (fun p => decide (pb p = (s, o))) with
    | some j => decide (gvAt r o = [] ∨ ((σ.ct[j]?).getD []).length + (gvAt r o).length ≤ (zs[j]?).getD 0)
    | none => true
def canS (ts : List Stn) (qs : List Pipe) (σ : Sta) (s : Nat) (z : Option (List Nat)) : Bool := match rowS ts qs σ s with
  | none => false
  | some r => match z with | none => true | some zs => roomS qs σ s r zs
def ableS (ts : List Stn) (qs : List Pipe) (σ : Sta) (z : Option (List Nat)) : List Nat := (List.range ts.length).filter fun s => canS ts qs σ s z
def aftS (ts : List Stn) (qs : List Pipe) (ex : List (Nat × Nat)) (σ : Sta) (s : Nat) (r : Rw) : Sta where
  sd := σ.sd.set s r.goal
  ct := qs.mapIdx fun j p => (if p.2.2.1 = s ∧ p.2.2.2 ∈ (sgAt ts σ s).reads.lines then ((σ.ct[j]?).getD []).drop 1 else (σ.ct[j]?).getD []) ++ if p.1 = s then gvAt r p.2.1 else []
  rs := if s = 0 ∧ 0 ∈ (sgAt ts σ s).reads.lines then σ.rs.drop 1 else σ.rs
  fl := ex.mapIdx fun j l => (σ.fl[j]?).getD [] ++ if l.1 = s then gvAt r l.2 else []
/-- every in-line but the first has its pipe -/
def AllIn (ts : List Stn) (qs : List Pipe) : Prop := ∀ s t l, ts[s]? = some t → l < t.ins → (s, l) ≠ (0, 0) → ∃ p ∈ qs, pe p = (s, l)
theorem ixIn_at {qs : List Pipe} {s l : Nat} (h : ∃ p ∈ qs, pe p = (s, l)) : ∃ p, qs[ixIn qs s l]? = some p ∧ pe p = (s, l) ∧ qs.find? (fun p => decide (pe p = (s, l))) = some p := by
  obtain ⟨p, hp, e⟩ := h
  have hl : ixIn qs s l < qs.length := List.findIdx_lt_length_of_exists ⟨p, hp, by simpa using e⟩
  have hg := List.findIdx_getElem (p := fun p => decide (pe p = (s, l))) (xs := qs) (w := hl)
  refine ⟨qs[ixIn qs s l], List.getElem?_eq_getElem hl, of_decide_eq_true hg, ?_⟩
  rw [List.find?_eq_some_iff_getElem]
  refine ⟨hg, ixIn qs s l, hl, rfl, fun j hj => ?_⟩
  have := List.not_of_lt_findIdx (p := fun p => decide (pe p = (s, l))) (xs := qs) (i := j) hj
  simpa using this
theorem all_line {ts : List Stn} {qs : List Pipe} (A : AllIn ts qs) {s l : Nat} {t : Stn} (e : ts[s]? = some t) (hl : l < t.ins) : (s, l) = (0, 0) ∨ ∃ p ∈ qs, pe p = (s, l) := by
  by_cases z : (s, l) = (0, 0)
  · exact .inl z
  · exact .inr (A s t l e hl z)
end FY

set_option Elab.async false
set_option linter.all false
set_option maxRecDepth 100000
set_option maxHeartbeats 4000000
namespace FY
open PySem L2 FYR
/-- the state σ as the text has it -/
def StaA (H : Hp) (v : V) (σ : Sta) : Prop := ∃ a p q r, v = .ref a ∧ H a = some (.tup [.ref p, .ref q, .str (tx σ.rs), .ref r]) ∧ H p = some (.tup (nV σ.sd)) ∧ H q = some (.tup (tV σ.ct)) ∧ H r = some (.tup (tV σ.fl))
theorem StaA.keep {H H' : Hp} (t : Tups H H') {v : V} {σ : Sta} (h : StaA H v σ) : StaA H' v σ := by
  obtain ⟨a, p, q, r, e, h1, h2, h3, h4⟩ := h
  exact ⟨a, p, q, r, e, t _ _ h1, t _ _ h2, t _ _ h3, t _ _ h4⟩
structure StOk (ts : List Stn) (ps : List Pipe) (σ : Sta) : Prop where
  ls : σ.sd.length = ts.length
  lc : σ.ct.length = (srt ps).length
  lf : σ.fl.length = (exitsOf ts ps).length
  st : ∀ (s : Nat) (t : Stn) (g : Nat), ts[s]? = some t → σ.sd[s]? = some g → g < t.stgs.length
  rb : σ.rs.length ≤ 100000
  cb : ∀ b ∈ σ.ct, b.length ≤ 100000
theorem StOk.tx {ts : List Stn} {ps : List Pipe} {σ : Sta} (h : StOk ts ps σ) (s l : Nat) : (txAt (srt ps) σ s l).length ≤ 100000 := by
  unfold txAt
  split
  · exact h.rb
  · cases z : σ.ct[ixIn (srt ps) s l]? with
    | none => exact Nat.zero_le _
    | some b => exact h.cb b (List.mem_of_getElem? z)
def LineOk (ps : List Pipe) (s l : Nat) : Prop := (s, l) = (0, 0) ∨ ∃ p ∈ srt ps, pe p = (s, l)
theorem eqv_nn (a b c d : Nat) : PyData.eqv (.tuple [.int (a : Nat), .int (b : Nat)]) (.tuple [.int (c : Nat), .int (d : Nat)]) = decide ((a, b) = (c, d)) := by
  simp only [PyData.eqv, PyData.eqvAll, Bool.and_true]
  by_cases h1 : a = c <;> by_cases h2 : b = d
  · subst h1; subst h2; simp
  · subst h1; simp [h2]; omega
  · simp [h1]; omega
  · simp [h1]; omega
def spTextAt (CY C : Addr) : Sp := fun vs H Q _ => ∃ (y : Addr) (v : V) (σ : Sta) (s l : Nat) (ts : List Stn) (ps : List Pipe), vs = [.ref y, v, .int (s : Nat), .int (l : Nat)] ∧ YdA CY C H y ts ps ∧ StaA H v σ ∧ StOk ts ps σ ∧ LineOk ps s l ∧ ∀ H', Same H H' → Q (.str (tx (txAt (srt ps) σ s l))) H'
section
variable {P : Program} {w : World} {K : PySem.W.Frag} {mg : Str → Option Value} {base : Heap} {aS a1 a2 aL aT : Addr} {f : Addr} {fd : FuncData} {C CD CY : Addr} {mc : Value}
abbrev s_text_at : Stmt := top 53
abbrev N_text_at : List Str := ["yard", "state", "station", "line"]
theorem sc_text_at : FnScope N_text_at ["yard", "state", "station", "line"] (defScope s_text_at) := ⟨rfl, rfl, rfl, by decide +kernel, rfl, by decide +kernel, by decide +kernel⟩
theorem ok_text_at (F : Fun K "text_at" "text_at" s_text_at f fd) (T : Txt K mg aS a1 a2) (Y : YdF K CY) : FnOk P w K mg base CX0 1 f fd ["yard", "state", "station", "line"] (spTextAt CY C) := by
  refine F.ok sc_text_at (fun vs H Q E h => ?_) (fun cdv A outer s0 H vs Q E hr h => ?_)
  · obtain ⟨y, v, σ, s, l, ts, ps, rfl, _⟩ := h
    rfl
  obtain ⟨y, v, σ, s, l, ts, ps, rfl, ya, sa, so, lo, q⟩ := h
  refine ⟨_, (pss_one (ps_ret (pe_ifExp (pt_cmpR (kEqD K rfl hr.units) (pe_tup (pa_cons (pv 2) (pa_cons (pv 3) pa_nil))) (pe_tup (pa_cons pe_int (pa_cons pe_int pa_nil))) (nomark _)) (pe_ix (kIxT K rfl) (pv 1) pe_int (fun _ _ => rfl)) (pe_ix (kIxT K rfl) (pe_ix (kIxT K rfl) (pv 1) pe_int (fun _ _ => rfl)) (pe_dget (hu1 hr) (kFld K rfl (pv 0)) (pe_tup (pa_cons (pv 2) (pa_cons (pv 3) pa_nil))) (fun _ _ => rfl)) (fun _ _ => rfl))))), ?_⟩
  refine ⟨_, rfl, _, rfl, sz rfl, fun p1 hp1 => ⟨sz rfl, fun p2 hp2 => ?_⟩⟩
  have k1 := same_new hp1 (.tup [.int (s : Nat), .int (l : Nat)])
  have k2 := same_new hp2 (.tup [.int 0, .int 0])
  have s12 := k1.trans' k2
  obtain ⟨a, p, q', r, rfl, h1, h2, h3, h4⟩ := sa
  refine ⟨.tuple [.int (s : Nat), .int (l : Nat)], .tuple [.int ((0 : Nat) : Int), .int ((0 : Nat) : Int)], .tup (SqT.of (k2 _ _ upd_same)) (.cons (.int _) (.cons (.int _) .nil)), .tup (SqT.of upd_same) (.cons (.int _) (.cons (.int _) .nil)), by rfl, by rfl, _, rfl, ?_⟩
  rw [eqv_nn]
  have e4 : (s, l) = (0, 0) ∨ (s, l) ≠ (0, 0) := by by_cases z : (s, l) = (0, 0); exact .inl z; exact .inr z
  rcases e4 with z | z
  · refine iteTd (decide_eq_true z) ⟨_, rfl, _, _, _, _, rfl, rfl, SqT.of (s12 _ _ h1), atI_nat (i := 2) rfl, ?_⟩
    have e5 : txAt (srt ps) σ s l = σ.rs := by unfold txAt; rw [if_pos z]
    rw [e5] at q
    exact q _ s12
  · refine iteFd (decide_eq_false z) ⟨_, rfl, _, _, _, _, rfl, rfl, SqT.of (s12 _ _ h1), atI_nat (i := 1) rfl, ?_⟩
    obtain ⟨dx, b1, b2, b3, b4, b5, b6, kv, kw, hy, he, hi, _⟩ := ya.dc
    refine ⟨_, rfl, y, CY, dx, _, _, rfl, s12 _ _ hy, Y.cl, Y.nI, rfl, _, rfl, _, rfl, sz rfl, fun p3 hp3 => ?_⟩
    have k3 := same_new hp3 (.tup [.int (s : Nat), .int (l : Nat)])
    have s13 := s12.trans' k3
    rcases lo with lo | lo
    · exact absurd lo z
    obtain ⟨pp, g1, g2, g3⟩ := ixIn_at lo
    have v1 := hi _ _ g1
    rw [g2] at v1
    refine ⟨_, _, rfl, .inr ⟨kv, kL2 (s, l), p3, .inl (s13 _ _ he), rfl, upd_same, v1.symm⟩, ?_⟩
    have lt : ixIn (srt ps) s l < σ.ct.length := by rw [so.lc]; exact lt_len g1
    refine ⟨_, _, _, _, rfl, rfl, SqT.of (s13 _ _ h3), atI_nat (i := ixIn (srt ps) s l) (x := .str (tx σ.ct[ixIn (srt ps) s l])) (by unfold tV; rw [List.getElem?_map, List.getElem?_eq_getElem lt]; rfl), ?_⟩
    have e5 : txAt (srt ps) σ s l = σ.ct[ixIn (srt ps) s l] := by unfold txAt; rw [if_neg z, List.getElem?_eq_getElem lt]; rfl
    rw [e5] at q
    exact q _ s13
end
end FY


set_option Elab.async false
set_option linter.all false
set_option maxRecDepth 100000
set_option maxHeartbeats 4000000
namespace FY
open PySem L2 FYR
def begS (bg : Bg) (ex : List (Nat × Nat)) (x : List Bool) : Sta := ⟨bg.1, bg.2, x, List.replicate ex.length []⟩
def spPlace : Sp := fun vs H Q _ => ∃ c : List Bool, vs = [.str (tx c)] ∧ (c.length = 1 ∨ c.length = 2) ∧ Q (.int (valB c : Nat)) H
def spBegun (CY C : Addr) : Sp := fun vs H Q _ => ∃ (y : Addr) (x : List Bool) (ts : List Stn) (ps : List Pipe) (bg : Bg), vs = [.ref y, .str (tx x)] ∧ YdA CY C H y ts ps ∧ YdBg CY H y bg ∧ (exitsOf ts ps).length ≤ 3 ∧ ∀ H' v, Same H H' → StaA H' v (begS bg (exitsOf ts ps) x) → Q v H'
section
variable {P : Program} {w : World} {K : PySem.W.Frag} {mg : Str → Option Value} {base : Heap} {aS a1 a2 aL aT : Addr} {f : Addr} {fd : FuncData} {C CD CY : Addr} {mc : Value}
abbrev s_place_of : Stmt := top 34
abbrev N_place_of : List Str := ["signs"]
theorem sc_place_of : FnScope N_place_of ["signs"] (defScope s_place_of) := ⟨rfl, rfl, rfl, by decide +kernel, rfl, by decide +kernel, by decide +kernel⟩
theorem ok_place_of (F : Fun K "place_of" "place_of" s_place_of f fd) (T : Txt K mg aS a1 a2) : FnOk P w K mg base CX0 1 f fd ["signs"] spPlace := by
  refine F.ok sc_place_of (fun vs H Q E h => ?_) (fun cdv A outer s0 H vs Q E hr h => ?_)
  · obtain ⟨c, rfl, _⟩ := h
    rfl
  obtain ⟨c, rfl, hl, q⟩ := h
  refine ⟨_, (pss_one (ps_ret (pe_callTy call_int2 rfl T.b_int bt_int (pa_cons (pv 0) (pa_cons pe_int pa_nil))))), ?_⟩
  exact ⟨_, rfl, c, rfl, hl, q⟩
abbrev s_begun : Stmt := top 52
abbrev N_begun : List Str := ["yard", "stream"]
theorem sc_begun : FnScope N_begun ["yard", "stream"] (defScope s_begun) := ⟨rfl, rfl, rfl, by decide +kernel, rfl, by decide +kernel, by decide +kernel⟩
theorem ok_begun (F : Fun K "begun" "begun" s_begun f fd) (T : Txt K mg aS a1 a2) (Y : YdF K CY) : FnOk P w K mg base CX0 1 f fd ["yard", "stream"] (spBegun CY C) := by
  refine F.ok sc_begun (fun vs H Q E h => ?_) (fun cdv A outer s0 H vs Q E hr h => ?_)
  · obtain ⟨y, x, ts, ps, bg, rfl, _⟩ := h
    rfl
  obtain ⟨y, x, ts, ps, bg, rfl, ya, yb, hx, q⟩ := h
  obtain ⟨dx, a, b, c, d', e, f', hy, ⟨us, ha, pus⟩, ⟨ws, hb, pws⟩, ⟨es, hc, pes⟩⟩ := ya.ob
  obtain ⟨dx2, a2, b2, c2, d, e2, f2, hy2, d1, d2, hd, hd1, hd2⟩ := yb
  have le := paired_len pes
  refine ⟨_, (pss_one (ps_ret (pe_op (kCatA K rfl) (kFld K rfl (pv 0)) (pe_tup (pa_cons (pv 1) (pa_cons (pe_op (kRepA K rfl) (pe_tup (pa_cons pe_str pa_nil)) (pe_callB (kLen K rfl) rfl T.b_len bt_len (pa_cons (kFld K rfl (pv 0)) pa_nil))) pa_nil)))))), ?_⟩
  refine ⟨_, rfl, y, CY, dx2, _, _, rfl, hy2, Y.cl, Y.nB, rfl, _, rfl, sz rfl, fun p1 hp1 => ?_⟩
  have k1 := same_new hp1 (.tup [.str ""])
  refine ⟨_, rfl, y, CY, dx, _, _, rfl, k1 _ _ hy, Y.cl, Y.nX, rfl, _, _, rfl, .inr (SqT.of (k1 _ _ hc)), ?_⟩
  refine repA_of upd_same (by omega) fun H2 p2 s2 hp2 => ⟨sz rfl, fun p3 hp3 => ?_⟩
  have k3 := same_new hp3 (.tup [.str (tx x), .ref p2])
  have s13 := (k1.trans' s2).trans' k3
  refine ⟨_, _, _, _, rfl, rfl, SqT.of (s13 _ _ hd), SqT.of upd_same, (by decide : 4 ≤ sizeLine), fun z => (by cases z), fun _ z => (by cases z), fun _ _ p4 hp4 => ?_⟩
  have k4 := same_new hp4 (.tup ([.ref d1, .ref d2] ++ [.str (tx x), .ref p2]))
  have s14 := s13.trans' k4
  refine q _ _ s14 ⟨p4, d1, d2, p2, rfl, upd_same, s14 _ _ hd1, s14 _ _ hd2, ?_⟩
  rw [k4 _ _ (k3 _ _ hp2), le]
  unfold tV begS
  rw [List.map_replicate]
  exact congrArg (fun v => some (HO.tup (List.replicate (exitsOf ts ps).length (V.str v)))) (show ("" : Str) = tx [] by decide +kernel)
end
end FY


set_option Elab.async false
set_option linter.all false
set_option maxRecDepth 100000
set_option maxHeartbeats 4000000
namespace FY
open PySem L2 FYR
/-- LINES, and what it tells -/
structure LinT (K : PySem.W.Frag) (aL : Addr) : Prop where
  ln : ∀ r : Rd, ∃ a, PySem.W.nsIn K aL r.s = some (some (.ref a)) ∧ ∀ H, SqT K H a (nV r.lines)
def RowV (H : Hp) (u : V) : Option Rw → Prop
  | some r => RwA H u r
  | none => u = .non
def spBeatRow (CY C : Addr) : Sp := fun vs H Q _ => ∃ (y : Addr) (v : V) (σ : Sta) (s : Nat) (t : Stn) (ts : List Stn) (ps : List Pipe), vs = [.ref y, v, .int (s : Nat)] ∧ YdA CY C H y ts ps ∧ StaA H v σ ∧ StOk ts ps σ ∧ ts[s]? = some t ∧ t.ok ∧ AllIn ts (srt ps) ∧ ∀ H' u, Same H H' → RowV H' u (rowS ts (srt ps) σ s) → Q u H'
theorem sg_lines {s : Sg} {i o m : Nat} (h : s.ok i o m) (hi : 1 ≤ i) {l : Nat} (hl : l ∈ s.reads.lines) : l < i := by
  rcases h.1 with e | e
  · rw [e] at hl
    simp [Rd.lines] at hl
    omega
  · subst e
    cases z : s.reads <;> rw [z] at hl <;> simp [Rd.lines] at hl <;> omega
theorem flat1 {g : Nat → List Bool} : ∀ ls : List Nat, ((ls.map fun l => (g l).take 1).flatten).length ≤ ls.length
  | [] => Nat.le_refl 0
  | l :: r => by
    have := flat1 (g := g) r
    simp only [List.map_cons, List.flatten_cons, List.length_append, List.length_take, List.length_cons]
    omega
theorem reads_len (r : Rd) : r.s.length = r.lines.length := by cases r <;> decide +kernel
theorem val_many (r : Rd) {c : List Bool} (h : c.length = r.lines.length) : valB c < r.many ∧ (c.length = 1 ∨ c.length = 2) := by
  cases r with
  | one => match c, h with
    | [a], _ => exact ⟨by cases a <;> decide, .inl rfl⟩
  | two => match c, h with
    | [a], _ => exact ⟨by cases a <;> decide, .inl rfl⟩
  | both => match c, h with
    | [a, b], _ => exact ⟨by cases a <;> cases b <;> decide, .inr rfl⟩
section
variable {P : Program} {w : World} {K : PySem.W.Frag} {mg : Str → Option Value} {base : Heap} {aS a1 a2 aL aT : Addr} {f : Addr} {fd : FuncData} {C CD CY : Addr} {mc : Value}
abbrev s_beat_row : Stmt := top 54
abbrev N_beat_row : List Str := ["yard", "state", "station", "reads", "rows", "signs", "line"]
theorem sc_beat_row : FnScope N_beat_row ["yard", "state", "station"] (defScope s_beat_row) := ⟨rfl, rfl, rfl, by decide +kernel, rfl, by decide +kernel, by decide +kernel⟩
theorem ok_beat_row (F : Fun K "beat_row" "beat_row" s_beat_row f fd) (T : Txt K mg aS a1 a2) (L : Lin K w mg aL) (LT : LinT K aL) (S : StC K mg C) (Y : YdF K CY) (c_text_at : C8.Cal P w K mg base 1 "text_at" (spTextAt CY C) []) (c_place_of : C8.Cal P w K mg base 1 "place_of" spPlace []) : FnOk P w K mg base CX0 2 f fd ["yard", "state", "station"] (spBeatRow CY C) := by
  refine F.ok sc_beat_row (fun vs H Q E h => ?_) (fun cdv A outer s0 H vs Q E hr h => ?_)
  · obtain ⟨y, v, σ, s, t, ts, ps, rfl, _⟩ := h
    rfl
  obtain ⟨y, v, σ, s, t, ts, ps, rfl, ya, sa, so, et, tok, al, q⟩ := h
  obtain ⟨esL, nL, kd⟩ := L.kd
  have sa0 := sa
  obtain ⟨va, vp, vq, vr, rfl, h1, h2, h3, h4⟩ := sa
  obtain ⟨dx, a, b, c, d, e, f', hy, ⟨us, ha, pus⟩, _⟩ := ya.ob
  obtain ⟨u, hu, sA, sdx, sp, sps, rfl, hsa, hsp, psg⟩ := paired_at pus et
  have ls : s < σ.sd.length := by rw [so.ls]; exact lt_len et
  have eg : σ.sd[s]? = some σ.sd[s] := List.getElem?_eq_getElem ls
  have lg := so.st s t _ et eg
  have esg : t.stgs[σ.sd[s]]? = some t.stgs[σ.sd[s]] := List.getElem?_eq_getElem lg
  obtain ⟨gv, hgv, ga, gq, gws, rfl, hga, hgq, prw⟩ := paired_at psg esg
  have sgok := tok.sg _ (List.getElem_mem lg)
  have eS : sgAt ts σ s = t.stgs[σ.sd[s]] := by unfold sgAt; rw [et, eg]; show (t.stgs[σ.sd[s]]?).getD _ = _; rw [esg]; rfl
  generalize hsg : t.stgs[σ.sd[s]] = sg at *
  refine ⟨_, (pss_cons (ps_asg (pe_ix (kIxT K rfl) (kFld K rfl (pe_ix (kIxT K rfl) (kFld K rfl (pv 0)) (pv 2) (fun _ _ => rfl))) (pe_ix (kIxT K rfl) (pe_ix (kIxT K rfl) (pv 1) pe_int (fun _ _ => rfl)) (pv 2) (fun _ _ => rfl)) (fun _ _ => rfl)) (kTupG (n := 2) K rfl rfl (pgs_cons (pg_name (i := 3) sc_beat_row.nd rfl (Or.inl rfl)) (pgs_cons (pg_name (i := 4) sc_beat_row.nd rfl (Or.inl rfl)) pgs_nil))))
        (pss_cons (ps_set (i := 5) sc_beat_row.nd rfl (Or.inl rfl) (kJoin K rfl pe_str (pe_lc (own := [("line", 6)]) rfl sc_beat_row.nd (kTup K rfl (pe_kd rfl rfl kd (C8.pe_gc rfl L.g_LINES) (pv 3) (fun _ _ => rfl))) (blkOk_by (N := N_beat_row) (sc := defScope s_beat_row) (by decide +kernel)) (fun _ _ _ _ _ => (pg_name (i := 6) sc_beat_row.nd rfl (Or.inl rfl))) (fun _ _ _ _ _ => pts_nil) (fun _ _ _ _ _ => (pe_slice sl_str (C8.pe_c c_text_at hr (by decide) rfl (pa_cons (pv 0) (pa_cons (pv 1) (pa_cons (pv 2) (pa_cons (pv 6) pa_nil))))) po_none (po_some pe_int))))))
        (pss_one (ps_ret (pe_ifExp (pt_cmpR op_eq (pe_callB call_len_str rfl T.b_len bt_len (pa_cons (pv 5) pa_nil)) (pe_callB call_len_str rfl T.b_len bt_len (pa_cons (pv 3) pa_nil)) (nomark _)) (pe_ix (kIxT K rfl) (pv 4) (C8.pe_c c_place_of hr (by decide) rfl (pa_cons (pv 5) pa_nil)) (fun _ _ => rfl)) pe_non))))), ?_⟩
  refine ⟨_, rfl, y, CY, dx, _, _, rfl, hy, Y.cl, Y.nS, rfl, _, rfl, _, _, _, _, rfl, rfl, SqT.of ha, atI_nat hu, sA, C, sdx, _, _, rfl, hsa, S.cl, S.nS, rfl, _, rfl, _, _, _, _, rfl, rfl, SqT.of h1, atI_nat (i := 0) rfl, _, rfl, _, _, _, _, rfl, rfl, SqT.of h2, atI_nat (i := s) (x := .int (σ.sd[s] : Nat)) (by unfold nV; rw [List.getElem?_map, eg]; rfl), _, _, _, _, rfl, rfl, SqT.of hsp, atI_nat hgv, ?_⟩
  refine ⟨_, _, rfl, SqT.of hga, rfl, _, _, rfl, _, _, rfl, rfl, ?_⟩
  obtain ⟨la, hla, sqL⟩ := LT.ln sg.reads
  refine ⟨⟨_, rfl⟩, _, rfl, _, _, V.ref la, rfl, rfl, hla, rfl, _, rfl, ⟨_, sqL _⟩, fun D hD => lc_it walk_tup (fun i H' => Same H H' ∧ H' D = some (.lst ((sg.reads.lines.take i).map fun l => V.str (tx ((txAt (srt ps) σ s l).take 1))))) ⟨same_new hD _, upd_same⟩ (fun i H' _ z => sqL _) ?_ ?_⟩
  · rintro i x G1 G2 hi ⟨sm, hd⟩ ⟨rfl, hx⟩
    have hx' : ∃ l, sg.reads.lines[i]? = some l ∧ x = .int (l : Nat) := by
      unfold nV at hx
      rw [List.getElem?_map] at hx
      cases z : sg.reads.lines[i]? with
      | none => rw [z] at hx; cases hx
      | some l => rw [z] at hx; exact ⟨l, rfl, (Option.some.inj hx).symm⟩
    obtain ⟨l, hl, rfl⟩ := hx'
    refine ⟨rfl, tyI ⟨_, rfl, _, rfl, _, rfl, _, rfl, y, .ref va, σ, s, l, ts, ps, rfl, ya.nl (NL.of sm), sa0.keep (Tups.of sm), so, all_line al et (sg_lines sgok tok.i1 (List.mem_of_getElem? hl)), fun G3 s3 => ?_⟩⟩
    refine ⟨1, rfl, tx (txAt (srt ps) σ s l), rfl, by rw [tx_len]; exact Nat.le_trans (so.tx s l) (by decide), ?_⟩
    rw [show (1 : Int) = ((1 : Nat) : Int) from rfl, cut_to]
    refine ⟨_, s3 _ _ hd, ?_, same_at (sm.trans' s3) hD, ?_⟩
    · rw [List.length_map, List.length_take]
      exact Nat.lt_of_le_of_lt (Nat.min_le_right _ _) (Nat.lt_of_le_of_lt (show sg.reads.lines.length ≤ 2 by cases sg.reads <;> decide) (by decide))
    · have e9 : sg.reads.lines.take (i + 1) = sg.reads.lines.take i ++ [l] := by rw [List.take_succ, hl]; rfl
      rw [upd_same, e9, List.map_append]
      rfl
  · rintro H1 ⟨sm, hd⟩
    have el : (nV sg.reads.lines).length = sg.reads.lines.length := by unfold nV; rw [List.length_map]
    rw [el, List.take_length] at hd
    have eG : sigs ts (srt ps) σ s = (sg.reads.lines.map fun l => (txAt (srt ps) σ s l).take 1).flatten := by unfold sigs; rw [eS]
    refine joinEndL (ys := sg.reads.lines.map fun l => (txAt (srt ps) σ s l).take 1) (by rw [hd, List.map_map]; rfl) (by have := flat1 (g := fun l => txAt (srt ps) σ s l) sg.reads.lines; have l2 : sg.reads.lines.length ≤ 2 := (by cases sg.reads <;> decide); omega) ?_
    rw [← eG]
    have lq : (sigs ts (srt ps) σ s).length ≤ 2 := by
      rw [eG]
      have := flat1 (g := fun l => txAt (srt ps) σ s l) sg.reads.lines
      have l2 : sg.reads.lines.length ≤ 2 := (by cases sg.reads <;> decide)
      omega
    refine ⟨_, rfl, _, rfl, by rw [tx_len]; exact Nat.le_trans lq (by decide), _, rfl, _, rfl, by rw [reads_len]; exact Nat.le_trans (show sg.reads.lines.length ≤ 2 by cases sg.reads <;> decide) (by decide), rfl, _, rfl, ?_⟩
    by_cases z : (sigs ts (srt ps) σ s).length = sg.reads.lines.length
    · obtain ⟨vm, v12⟩ := val_many sg.reads z
      have lr : valB (sigs ts (srt ps) σ s) < sg.rows.length := by rw [sgok.2.1]; exact vm
      have er : sg.rows[valB (sigs ts (srt ps) σ s)]? = some sg.rows[valB (sigs ts (srt ps) σ s)] := List.getElem?_eq_getElem lr
      obtain ⟨rv, hrv, rA⟩ := paired_at prw er
      refine iteTd (by rw [tx_len, reads_len, z]; simp) ⟨_, rfl, _, rfl, _, rfl, v12, _, _, _, _, rfl, rfl, SqT.of (sm _ _ hgq), atI_nat hrv, q _ _ sm ?_⟩
      unfold rowS
      rw [eS, if_pos z, er]
      exact rA.keep (Tups.of sm)
    · refine iteFd (by rw [tx_len, reads_len]; simp; omega) (q _ _ sm ?_)
      unfold rowS
      rw [eS, if_neg z]
      rfl
end
end FY


set_option Elab.async false
set_option linter.all false
set_option maxRecDepth 100000
set_option maxHeartbeats 4000000
namespace FY
open PySem L2 FYR
def rmAt (qs : List Pipe) (σ : Sta) (s : Nat) (r : Rw) (zs : List Nat) (o : Nat) : Bool := match qs.findIdx? (fun p => decide (pb p = (s, o))) with
    | some j => decide (gvAt r o = [] ∨ ((σ.ct[j]?).getD []).length + (gvAt r o).length ≤ (zs[j]?).getD 0)
    | none => true
theorem room_eq (qs : List Pipe) (σ : Sta) (s : Nat) (r : Rw) (zs : List Nat) : roomS qs σ s r zs = (List.range r.gives.length).all (rmAt qs σ s r zs) := rfl
def OutOk (ts : List Stn) (ps : List Pipe) (s o : Nat) : Prop := (s, o) ∈ exitsOf ts ps ∨ ∃ p ∈ srt ps, pb p = (s, o)
theorem out_ok {ts : List Stn} {ps : List Pipe} {s o : Nat} {t : Stn} (e : ts[s]? = some t) (ho : o < t.outs) : OutOk ts ps s o := by
  have hm : ∀ (n : Nat) (ts : List Stn) (s : Nat), ts[s]? = some t → (n + s, o) ∈ linesFrom n ts := by
    intro n ts
    induction ts generalizing n with
    | nil => intro s h; simp at h
    | cons u r ih =>
      intro s h
      simp only [linesFrom, List.mem_append]
      cases s with
      | zero =>
        have : u = t := by simpa using h
        subst this
        exact .inl (List.mem_map.mpr ⟨o, List.mem_range.mpr ho, rfl⟩)
      | succ s =>
        have := ih (n + 1) s (by simpa using h)
        rw [show n + (s + 1) = n + 1 + s by omega]
        exact .inr this
  have h0 := hm 0 ts s e
  rw [Nat.zero_add] at h0
  by_cases z : (s, o) ∈ ps.map pb
  · obtain ⟨p, hp, e2⟩ := List.mem_map.mp z
    exact .inr ⟨p, (srt_perm ps).mem_iff.mpr hp, e2⟩
  · exact .inl (List.mem_filter.mpr ⟨h0, by simpa using z⟩)
theorem onto_pipe {H : Hp} {kw : List (List Key × V)} {qs : List Pipe} {ex : List (Nat × Nat)} (h : OntoA H kw qs ex) {s o : Nat} (hp : ∃ p ∈ qs, pb p = (s, o)) : ∃ j a, qs.findIdx? (fun p => decide (pb p = (s, o))) = some j ∧ j < qs.length ∧ valV kw (kL2 (s, o)) = some (.ref a) ∧ H a = some (.tup [.bl true, .int (j : Nat)]) := by
  cases z : qs.findIdx? (fun p => decide (pb p = (s, o))) with
  | none =>
    obtain ⟨p, hp, e⟩ := hp
    have := List.findIdx?_eq_none_iff.mp z p hp
    simp [e] at this
  | some j =>
    obtain ⟨hj, hg, _⟩ := List.findIdx?_eq_some_iff_getElem.mp z
    have e1 : pb qs[j] = (s, o) := by simpa using hg
    obtain ⟨a, h1, h2⟩ := h.1 j qs[j] (List.getElem?_eq_getElem hj)
    rw [e1] at h1
    exact ⟨j, a, rfl, hj, h1, h2⟩
def spRoom (CY C : Addr) : Sp := fun vs H Q _ => ∃ (y q G Z : Addr) (σ : Sta) (s : Nat) (t : Stn) (r : Rw) (zs : List Nat) (ts : List Stn) (ps : List Pipe), vs = [.ref y, .ref q, .int (s : Nat), .ref G, .ref Z] ∧ YdA CY C H y ts ps ∧ H q = some (.tup (tV σ.ct)) ∧ H G = some (.tup (tV r.gives)) ∧ H Z = some (.tup (nV zs)) ∧ zs.length = (srt ps).length ∧ StOk ts ps σ ∧ ts[s]? = some t ∧ r.ok t.outs t.stgs.length ∧ ∀ H', Same H H' → Q (.bl (roomS (srt ps) σ s r zs)) H'
section
variable {P : Program} {w : World} {K : PySem.W.Frag} {mg : Str → Option Value} {base : Heap} {aS a1 a2 aL aT : Addr} {f : Addr} {fd : FuncData} {C CD CY : Addr} {mc : Value}
abbrev s_has_room : Stmt := top 55
abbrev N_has_room : List Str := ["yard", "contents", "station", "gives", "sizes", "line", "text", "is_pipe", "place"]
theorem sc_has_room : FnScope N_has_room ["yard", "contents", "station", "gives", "sizes"] (defScope s_has_room) := ⟨rfl, rfl, rfl, by decide +kernel, rfl, by decide +kernel, by decide +kernel⟩
theorem ok_has_room (F : Fun K "has_room" "has_room" s_has_room f fd) (T : Txt K mg aS a1 a2) (Y : YdF K CY) : FnOk P w K mg base CX0 1 f fd ["yard", "contents", "station", "gives", "sizes"] (spRoom CY C) := by
  refine F.ok sc_has_room (fun vs H Q E h => ?_) (fun cdv A outer s0 H vs Q E hr h => ?_)
  · obtain ⟨y, q, G, Z, σ, s, t, r, zs, ts, ps, rfl, _⟩ := h
    rfl
  obtain ⟨y, q, G, Z, σ, s, t, r, zs, ts, ps, rfl, ya, hq, hG, hZ, lz, so, et, rok, qq⟩ := h
  obtain ⟨dx, b1, b2, b3, b4, b5, b6, kv, kw, hy, he, hi, hf, on⟩ := ya.dc
  refine ⟨_, (pss_cons (ps_for PassesOwn.never rfl (pi_enumT K rfl rfl T.b_enumerate (pa_cons (pv 3) pa_nil)) (kTupG (n := 2) K rfl rfl (pgs_cons (pg_name (i := 5) sc_has_room.nd rfl (Or.inl rfl)) (pgs_cons (pg_name (i := 6) sc_has_room.nd rfl (Or.inl rfl)) pgs_nil)))
        (pss_cons (ps_asg (pe_dget (hu1 hr) (kFld K rfl (pv 0)) (pe_tup (pa_cons (pv 2) (pa_cons (pv 5) pa_nil))) (fun _ _ => rfl)) (kTupG (n := 2) K rfl rfl (pgs_cons (pg_name (i := 7) sc_has_room.nd rfl (Or.inl rfl)) (pgs_cons (pg_name (i := 8) sc_has_room.nd rfl (Or.inl rfl)) pgs_nil))))
        (pss_one (ps_if (PW.pt (pw_and (pt_val (pv 7)) (pw_and (pt_cmpR op_ne (pv 6) pe_str (nomark _)) (pw_and1 (pt_cmpR op_gt (pe_op op_add (pe_callB call_len_str rfl T.b_len bt_len (pa_cons (pe_ix (kIxT K rfl) (pv 1) (pv 8) (fun _ _ => rfl)) pa_nil)) (pe_callB call_len_str rfl T.b_len bt_len (pa_cons (pv 6) pa_nil))) (pe_ix (kIxT K rfl) (pv 4) (pv 8) (fun _ _ => rfl)) (nomark _))))))
        (pss_one (ps_ret pe_bl))
        pss_nil))))
        (pss_one (ps_ret pe_bl))), ?_⟩
  refine ⟨_, rfl, _, _, rfl, SqT.of hG, for_it walk_enumT (fun i τ H' => (∃ a b c d, τ = [some (.ref y), some (.ref q), some (.int (s : Nat)), some (.ref G), some (.ref Z), a, b, c, d]) ∧ Same H H' ∧ ∀ o < i, rmAt (srt ps) σ s r zs o = true) ⟨⟨_, _, _, _, rfl⟩, Same.refl _, fun o ho => absurd ho (Nat.not_lt_zero _)⟩ (fun i τ H' _ z => SqT.of (z.2.1 _ _ hG)) ?_ ?_⟩
  · rintro i x τ G1 G2 hi2 ⟨⟨a, b, c, d, rfl⟩, sm, al⟩ ⟨T0, i1, i2, rfl, hT0, rfl, hi1, hi2'⟩
    obtain rfl : V.int (i : Nat) = i1 := Option.some.inj hi1
    have hg : ∃ g, r.gives[i]? = some g ∧ i2 = .str (tx g) := by
      have hi2' : (tV r.gives)[i]? = some i2 := hi2'
      unfold tV at hi2'
      rw [List.getElem?_map] at hi2'
      cases z : r.gives[i]? with
      | none => rw [z] at hi2'; cases hi2'
      | some g => rw [z] at hi2'; exact ⟨g, rfl, (Option.some.inj hi2').symm⟩
    obtain ⟨g, hg, rfl⟩ := hg
    have k0 := same_new hT0 (.tup [.int (i : Nat), .str (tx g)])
    have s0' := sm.trans' k0
    have eg : gvAt r i = g := by unfold gvAt; rw [hg]; rfl
    have io : i < t.outs := by rw [← rok.1]; exact lt_len hg
    refine ⟨_, _, rfl, SqT.of upd_same, rfl, _, _, rfl, _, _, rfl, rfl, _, rfl, y, CY, dx, _, _, rfl, s0' _ _ hy, Y.cl, Y.nO, rfl, _, rfl, _, rfl, sz rfl, fun p3 hp3 => ?_⟩
    have k3 := same_new hp3 (.tup [.int (s : Nat), .int (i : Nat)])
    have s3 := s0'.trans' k3
    rcases out_ok (ps := ps) et io with hx | hx
    · obtain ⟨n, hn⟩ := List.mem_iff_getElem?.mp hx
      obtain ⟨a9, v9, h9⟩ := on.2 n _ hn
      refine ⟨_, _, rfl, .inr ⟨kw, kL2 (s, i), p3, .inl (s3 _ _ hf), rfl, upd_same, v9.symm⟩, _, _, rfl, SqT.of (s3 _ _ h9), rfl, _, _, rfl, _, _, rfl, rfl, ?_⟩
      have rm : rmAt (srt ps) σ s r zs i = true := by
        unfold rmAt
        cases z : (srt ps).findIdx? (fun p => decide (pb p = (s, i))) with
        | none => rfl
        | some j =>
          obtain ⟨hj, hg', _⟩ := List.findIdx?_eq_some_iff_getElem.mp z
          have e1 : pb (srt ps)[j] = (s, i) := by simpa using hg'
          have := (List.mem_filter.mp hx).2
          simp only [Bool.not_eq_true', decide_eq_false_iff_not] at this
          exact absurd (by rw [← e1]; exact List.mem_map_of_mem ((srt_perm ps).mem_iff.mp (List.getElem_mem hj))) this
      refine ⟨_, rfl, _, rfl, iteF (iteF ⟨⟨_, _, _, _, rfl⟩, s3, fun o ho => ?_⟩)⟩
      by_cases z : o = i
      · rw [z]; exact rm
      · exact al o (by omega)
    · obtain ⟨j, a9, f9, j9, v9, h9⟩ := onto_pipe on hx
      refine ⟨_, _, rfl, .inr ⟨kw, kL2 (s, i), p3, .inl (s3 _ _ hf), rfl, upd_same, v9.symm⟩, _, _, rfl, SqT.of (s3 _ _ h9), rfl, _, _, rfl, _, _, rfl, rfl, ?_⟩
      have lc : j < σ.ct.length := by rw [so.lc]; exact j9
      have lzj : j < zs.length := by rw [lz]; exact j9
      have er : rmAt (srt ps) σ s r zs i = decide (g = [] ∨ σ.ct[j].length + g.length ≤ zs[j]) := by
        unfold rmAt
        rw [f9, eg]
        simp [List.getElem?_eq_getElem lc, List.getElem?_eq_getElem lzj]
      have g2 : g.length ≤ 2 := rok.2.1 g (List.mem_of_getElem? hg)
      have cb := so.cb _ (List.getElem_mem lc)
      refine ⟨_, rfl, _, rfl, iteT ⟨_, rfl, rfl, _, rfl, ?_⟩⟩
      by_cases zg : g = []
      · subst zg
        refine iteFd (by decide +kernel) (iteF ⟨⟨_, _, _, _, rfl⟩, s3, fun o ho => ?_⟩)
        by_cases z : o = i
        · rw [z, er]; simp
        · exact al o (by omega)
      · have ne : ¬ V.str (tx g) = V.str "" := fun y => by
          have y1 : tx g = "" := by injection y
          have y2 : (tx g).length = 0 := by rw [y1]; rfl
          rw [tx_len] at y2
          exact zg (List.length_eq_zero_iff.mp y2)
        refine iteTd (by rw [decide_eq_false ne]; rfl) ⟨_, rfl, _, rfl, _, _, _, _, rfl, rfl, SqT.of (s3 _ _ hq), atI_nat (i := j) (x := .str (tx σ.ct[j])) (by unfold tV; rw [List.getElem?_map, List.getElem?_eq_getElem lc]; rfl), _, rfl, by rw [tx_len]; exact Nat.le_trans cb (by decide), _, rfl, _, rfl, by rw [tx_len]; exact Nat.le_trans g2 (by decide), _, _, rfl, rfl, _, rfl, _, rfl, _, _, _, _, rfl, rfl, SqT.of (s3 _ _ hZ), atI_nat (i := j) (x := .int (zs[j] : Nat)) (by unfold nV; rw [List.getElem?_map, List.getElem?_eq_getElem lzj]; rfl), _, _, rfl, rfl, _, rfl, ?_⟩
        rw [tx_len, tx_len]
        by_cases zr : σ.ct[j].length + g.length ≤ zs[j]
        · refine iteFd (by simp; omega) ⟨⟨_, _, _, _, rfl⟩, s3, fun o ho => ?_⟩
          by_cases z : o = i
          · rw [z, er]; simp [zr]
          · exact al o (by omega)
        · refine iteTd (by simp; omega) ?_
          have e : roomS (srt ps) σ s r zs = false := by
            rw [room_eq]
            cases y : (List.range r.gives.length).all (rmAt (srt ps) σ s r zs) with
            | false => rfl
            | true =>
              have := List.all_eq_true.mp y i (List.mem_range.mpr (lt_len hg))
              rw [er] at this
              simp [zg, zr] at this
          rw [e] at qq
          exact qq _ s3
  · rintro τ H1 ⟨⟨a, b, c, d, rfl⟩, sm, al⟩
    have e : roomS (srt ps) σ s r zs = true := by
      rw [room_eq, List.all_eq_true]
      intro o ho
      exact al o (by have := List.mem_range.mp ho; unfold tV; rw [List.length_map]; exact this)
    rw [e] at qq
    exact qq _ sm
end
end FY


set_option Elab.async false
set_option linter.all false
set_option maxRecDepth 100000
set_option maxHeartbeats 4000000
namespace FY
open PySem L2 FYR
def SzA (H : Hp) (v : V) : Option (List Nat) → Prop
  | none => v = .non
  | some zs => ∃ Z, v = .ref Z ∧ H Z = some (.tup (nV zs))
def SzOk (ps : List Pipe) : Option (List Nat) → Prop
  | none => True
  | some zs => zs.length = (srt ps).length
theorem SzA.keep {H H' : Hp} (t : Tups H H') {v : V} {z : Option (List Nat)} (h : SzA H v z) : SzA H' v z := by
  cases z with
  | none => exact h
  | some zs =>
    obtain ⟨Z, e, h1⟩ := h
    exact ⟨Z, e, t _ _ h1⟩
theorem row_in {ts : List Stn} {ps : List Pipe} {σ : Sta} {s : Nat} {t : Stn} {r : Rw} (so : StOk ts ps σ) (et : ts[s]? = some t) (tok : t.ok) (h : rowS ts (srt ps) σ s = some r) : r.ok t.outs t.stgs.length := by
  have ls : s < σ.sd.length := by rw [so.ls]; exact lt_len et
  have eg : σ.sd[s]? = some σ.sd[s] := List.getElem?_eq_getElem ls
  have lg := so.st s t _ et eg
  have esg : t.stgs[σ.sd[s]]? = some t.stgs[σ.sd[s]] := List.getElem?_eq_getElem lg
  have eS : sgAt ts σ s = t.stgs[σ.sd[s]] := by unfold sgAt; rw [et, eg]; show (t.stgs[σ.sd[s]]?).getD _ = _; rw [esg]; rfl
  unfold rowS at h
  split at h
  · rw [eS] at h
    exact (tok.sg _ (List.getElem_mem lg)).2.2 r (List.mem_of_getElem? h)
  · cases h
def spPoss (CY C : Addr) : Sp := fun vs H Q _ => ∃ (y : Addr) (v zv : V) (σ : Sta) (s : Nat) (t : Stn) (z : Option (List Nat)) (ts : List Stn) (ps : List Pipe), vs = [.ref y, v, .int (s : Nat), zv] ∧ YdA CY C H y ts ps ∧ StaA H v σ ∧ StOk ts ps σ ∧ ts[s]? = some t ∧ t.ok ∧ AllIn ts (srt ps) ∧ SzA H zv z ∧ SzOk ps z ∧ ∀ H', Same H H' → Q (.bl (canS ts (srt ps) σ s z)) H'
section
variable {P : Program} {w : World} {K : PySem.W.Frag} {mg : Str → Option Value} {base : Heap} {aS a1 a2 aL aT : Addr} {f : Addr} {fd : FuncData} {C CD CY : Addr} {mc : Value}
abbrev s_is_possible : Stmt := top 56
abbrev N_is_possible : List Str := ["yard", "state", "station", "sizes", "row"]
theorem sc_is_possible : FnScope N_is_possible ["yard", "state", "station", "sizes"] (defScope s_is_possible) := ⟨rfl, rfl, rfl, by decide +kernel, rfl, by decide +kernel, by decide +kernel⟩
theorem ok_is_possible (F : Fun K "is_possible" "is_possible" s_is_possible f fd) (c_beat_row : C8.Cal P w K mg base 2 "beat_row" (spBeatRow CY C) []) (c_has_room : C8.Cal P w K mg base 1 "has_room" (spRoom CY C) []) : FnOk P w K mg base CX0 3 f fd ["yard", "state", "station", "sizes"] (spPoss CY C) := by
  refine F.ok sc_is_possible (fun vs H Q E h => ?_) (fun cdv A outer s0 H vs Q E hr h => ?_)
  · obtain ⟨y, v, zv, σ, s, t, z, ts, ps, rfl, _⟩ := h
    rfl
  obtain ⟨y, v, zv, σ, s, t, z, ts, ps, rfl, ya, sa, so, et, tok, al, sz1, szo, q⟩ := h
  refine ⟨_, (pss_cons (ps_set (i := 4) sc_is_possible.nd rfl (Or.inl rfl) (C8.pe_c c_beat_row hr (by decide) rfl (pa_cons (pv 0) (pa_cons (pv 1) (pa_cons (pv 2) pa_nil)))))
        (pss_one (ps_ret (pe_and (pe_cmp (pc_notN (pv 4))) (pe_one (pe_or (pe_cmp (pc_isN (pv 3))) (pe_one (C8.pe_c c_has_room hr (by decide) rfl (pa_cons (pv 0) (pa_cons (pe_ix (kIxT K rfl) (pv 1) pe_int (fun _ _ => rfl)) (pa_cons (pv 2) (pa_cons (pe_ix (kIxT K rfl) (pv 4) pe_int (fun _ _ => rfl)) (pa_cons (pv 3) pa_nil))))))))))))), ?_⟩
  refine ⟨_, rfl, _, rfl, _, rfl, y, v, σ, s, t, ts, ps, rfl, ya, sa, so, et, tok, al, fun H1 u s1 ru => ?_⟩
  unfold canS at q
  cases zr : rowS ts (srt ps) σ s with
  | none =>
    rw [zr] at ru q
    obtain rfl : u = .non := ru
    exact ⟨_, rfl, _, rfl, iteFd (by decide) (q _ s1)⟩
  | some r =>
    rw [zr] at ru q
    obtain ⟨ra, rg, rfl, hra, hrg⟩ := ru
    have rok := row_in so et tok zr
    cases z with
    | none =>
      obtain rfl : zv = .non := sz1
      exact ⟨_, rfl, _, rfl, iteTd (by simp) ⟨_, rfl, _, rfl, iteTd (by decide) (q _ s1)⟩⟩
    | some zs =>
      obtain ⟨Z, rfl, hZ⟩ := sz1
      obtain ⟨va, vp, vq, vr, rfl, h1, h2, h3, h4⟩ := sa
      exact ⟨_, rfl, _, rfl, iteTd (by simp) ⟨_, rfl, _, rfl, iteFd (by simp) ⟨_, rfl, _, rfl, _, _, _, _, rfl, rfl, SqT.of (s1 _ _ h1), atI_nat (i := 1) rfl, _, rfl, _, rfl, _, _, _, _, rfl, rfl, SqT.of hra, atI_nat (i := 0) rfl, _, rfl, y, vq, rg, Z, σ, s, t, r, zs, ts, ps, rfl, ya.nl (NL.of s1), s1 _ _ h3, hrg, s1 _ _ hZ, szo, so, et, rok, fun H2 s2 => q _ (s1.trans' s2)⟩⟩⟩
end
end FY


set_option Elab.async false
set_option linter.all false
set_option maxRecDepth 100000
set_option maxHeartbeats 4000000
namespace FY
open PySem L2 FYR
def spPossible (CY C : Addr) : Sp := fun vs H Q _ => ∃ (y : Addr) (v zv : V) (σ : Sta) (z : Option (List Nat)) (ts : List Stn) (ps : List Pipe), vs = [.ref y, v, zv] ∧ YdA CY C H y ts ps ∧ StaA H v σ ∧ StOk ts ps σ ∧ (∀ t ∈ ts, t.ok) ∧ ts.length ≤ 12 ∧ AllIn ts (srt ps) ∧ SzA H zv z ∧ SzOk ps z ∧ ∀ H' p, Same H H' → H p = none → H' p = some (.lst (nV (ableS ts (srt ps) σ z))) → Q (.ref p) H'
section
variable {P : Program} {w : World} {K : PySem.W.Frag} {mg : Str → Option Value} {base : Heap} {aS a1 a2 aL aT : Addr} {f : Addr} {fd : FuncData} {C CD CY : Addr} {mc : Value}
abbrev s_possible : Stmt := top 57
abbrev N_possible : List Str := ["yard", "state", "sizes", "station"]
theorem sc_possible : FnScope N_possible ["yard", "state", "sizes"] (defScope s_possible) := ⟨rfl, rfl, rfl, by decide +kernel, rfl, by decide +kernel, by decide +kernel⟩
theorem ok_possible (F : Fun K "possible" "possible" s_possible f fd) (T : Txt K mg aS a1 a2) (lY : LenC P w K mg base 1 CY (spYL CY C)) (c_is_possible : C8.Cal P w K mg base 3 "is_possible" (spPoss CY C) []) : FnOk P w K mg base CX0 4 f fd ["yard", "state", "sizes"] (spPossible CY C) := by
  refine F.ok sc_possible (fun vs H Q E h => ?_) (fun cdv A outer s0 H vs Q E hr h => ?_)
  · obtain ⟨y, v, zv, σ, z, ts, ps, rfl, _⟩ := h
    rfl
  obtain ⟨y, v, zv, σ, z, ts, ps, rfl, ya, sa, so, tok, t12, al, sz1, szo, q⟩ := h
  refine ⟨_, (pss_one (ps_ret (pe_lc (own := [("station", 3)]) rfl sc_possible.nd (pi_range1 rfl T.b_range (pa_cons (pe_callB (kLenO lY hr (by decide)) rfl T.b_len bt_len (pa_cons (pv 0) pa_nil)) pa_nil)) (blkOk_by (N := N_possible) (sc := defScope s_possible) (by decide +kernel)) (fun _ _ _ _ _ => (pg_name (i := 3) sc_possible.nd rfl (Or.inl rfl))) (fun _ _ _ _ _ => pts_one (pt_val (C8.pe_c c_is_possible hr (by decide) rfl (pa_cons (pv 0) (pa_cons (pv 1) (pa_cons (pv 3) (pa_cons (pv 2) pa_nil))))))) (fun _ _ _ _ _ => (pv 3))))), ?_⟩
  obtain ⟨dx, b1, b2, b3, b4, b5, b6, kv, kw, hy, _⟩ := ya.dc
  refine ⟨_, rfl, y, dx, _, rfl, hy, y, ts, ps, rfl, ya, ?_⟩
  refine ⟨ts.length, rfl, by omega, _, rfl, by omega, by omega, fun D hD => lc_it walk_range (fun i H' => Same H H' ∧ H' D = some (.lst (nV ((List.range i).filter fun s => canS ts (srt ps) σ s z)))) ⟨same_new hD _, upd_same⟩ (fun _ _ _ _ => trivial) ?_ ?_⟩
  · rintro i x H1 H2 hi ⟨sm, hd⟩ ⟨rfl, hx⟩
    have hx : x = .int (i : Int) := by rw [hx]; exact congrArg V.int (Int.zero_add _)
    subst hx
    have hil : i < ts.length := by omega
    have et : ts[i]? = some ts[i] := List.getElem?_eq_getElem hil
    refine ⟨rfl, _, rfl, _, rfl, _, rfl, _, rfl, y, v, zv, σ, i, ts[i], z, ts, ps, rfl, ya.nl (NL.of sm), sa.keep (Tups.of sm), so, et, tok _ (List.getElem_mem hil), al, sz1.keep (Tups.of sm), szo, fun H3 s3 => ⟨_, rfl, ?_⟩⟩
    cases zc : canS ts (srt ps) σ i z with
    | true =>
      refine iteT ⟨_, rfl, _, s3 _ _ hd, ?_, same_at (sm.trans' s3) hD, ?_⟩
      · unfold nV
        rw [List.length_map]
        exact Nat.lt_of_le_of_lt (List.length_filter_le _ _) (Nat.lt_of_le_of_lt (by rw [List.length_range]; omega) (show 12 < sizeLine by decide))
      · rw [upd_same, List.range_succ, List.filter_append]
        unfold nV
        rw [List.map_append]
        simp [zc]
    | false =>
      refine iteF ⟨sm.trans' s3, ?_⟩
      rw [s3 _ _ hd, List.range_succ, List.filter_append]
      simp [zc]
  · rintro H1 ⟨sm, hd⟩
    refine q _ _ sm hD ?_
    rw [hd]
    rfl
end
end FY


set_option Elab.async false
set_option linter.all false
set_option maxRecDepth 100000
set_option maxHeartbeats 4000000
namespace FY
/-! ### a beat, sign by sign -/
def pop1 (qs : List Pipe) (s : Nat) (p : List Bool × List (List Bool)) (l : Nat) : List Bool × List (List Bool) := if (s, l) = (0, 0) then (p.1.drop 1, p.2) else (p.1, p.2.set (ixIn qs s l) (((p.2[ixIn qs s l]?).getD []).drop 1))
def giv1 (qs : List Pipe) (ex : List (Nat × Nat)) (s : Nat) (r : Rw) (p : List (List Bool) × List (List Bool)) (o : Nat) : List (List Bool) × List (List Bool) := match qs.findIdx? (fun p => decide (pb p = (s, o))) with
  | some j => (p.1.set j ((p.1[j]?).getD [] ++ gvAt r o), p.2)
  | none => (p.1, p.2.set (ex.findIdx fun l => decide (l = (s, o))) ((p.2[ex.findIdx fun l => decide (l = (s, o))]?).getD [] ++ gvAt r o))
theorem pop_len (qs : List Pipe) (s : Nat) : ∀ (ls : List Nat) (p : List Bool × List (List Bool)), (ls.foldl (pop1 qs s) p).2.length = p.2.length
  | [], p => rfl
  | l :: r, p => by
    rw [List.foldl_cons, pop_len qs s r]
    unfold pop1
    split <;> simp
theorem giv_len (qs : List Pipe) (ex : List (Nat × Nat)) (s : Nat) (r : Rw) : ∀ (ls : List Nat) (p : List (List Bool) × List (List Bool)), (ls.foldl (giv1 qs ex s r) p).1.length = p.1.length ∧ (ls.foldl (giv1 qs ex s r) p).2.length = p.2.length
  | [], p => ⟨rfl, rfl⟩
  | l :: r', p => by
    obtain ⟨a, b⟩ := giv_len qs ex s r r' (giv1 qs ex s r p l)
    rw [List.foldl_cons, a, b]
    unfold giv1
    split <;> simp
/-- what the pops leave of the stream -/
theorem pop_rs {qs : List Pipe} {s : Nat} : ∀ (ls : List Nat) (p : List Bool × List (List Bool)), ls.Nodup → (ls.foldl (pop1 qs s) p).1 = if s = 0 ∧ 0 ∈ ls then p.1.drop 1 else p.1
  | [], p, _ => by simp
  | l :: r, p, h => by
    obtain ⟨h1, h2⟩ := List.nodup_cons.mp h
    rw [List.foldl_cons, pop_rs r _ h2]
    unfold pop1
    by_cases z : (s, l) = (0, 0)
    · obtain ⟨rfl, rfl⟩ := Prod.mk.inj z
      rw [if_pos rfl, if_neg (fun w => h1 w.2), if_pos ⟨rfl, List.mem_cons_self ..⟩]
    · rw [if_neg z]
      by_cases y : s = 0 ∧ 0 ∈ r
      · rw [if_pos y, if_pos ⟨y.1, List.mem_cons_of_mem _ y.2⟩]
      · rw [if_neg y]
        by_cases w : s = 0 ∧ 0 ∈ l :: r
        · exfalso
          rcases List.mem_cons.mp w.2 with e | e
          · exact z (by rw [w.1, ← e])
          · exact y ⟨w.1, e⟩
        · rw [if_neg w]
def LineQ (qs : List Pipe) (s l : Nat) : Prop := (s, l) = (0, 0) ∨ ∃ p ∈ qs, pe p = (s, l)
/-- .. of a pipe -/
theorem pop_ct {qs : List Pipe} (nd : (qs.map pe).Nodup) (lt : ∀ p ∈ qs, p.1 < p.2.2.1) {s j : Nat} {q : Pipe} (hq : qs[j]? = some q) : ∀ (ls : List Nat) (p : List Bool × List (List Bool)), ls.Nodup → p.2.length = qs.length → (∀ l ∈ ls, LineQ qs s l) → ((ls.foldl (pop1 qs s) p).2[j]?).getD [] = if q.2.2.1 = s ∧ q.2.2.2 ∈ ls then ((p.2[j]?).getD []).drop 1 else (p.2[j]?).getD []
  | [], p, _, _, _ => by simp
  | l :: r, p, h, hl, ho => by
    obtain ⟨h1, h2⟩ := List.nodup_cons.mp h
    have lj : j < p.2.length := by rw [hl]; exact (List.getElem?_eq_some_iff.mp hq).1
    have l1 : (pop1 qs s p l).2.length = qs.length := by
      rw [← hl]
      unfold pop1
      split <;> simp
    rw [List.foldl_cons, pop_ct nd lt hq r _ h2 l1 fun l' hl' => ho l' (List.mem_cons_of_mem _ hl')]
    have q0 : q.2.2.1 ≠ 0 := by have := lt q (List.mem_of_getElem? hq); omega
    unfold pop1
    by_cases z : (s, l) = (0, 0)
    · obtain ⟨rfl, rfl⟩ := Prod.mk.inj z
      rw [if_pos rfl, if_neg (fun w => q0 w.1), if_neg (fun w => q0 w.1)]
    · rw [if_neg z]
      obtain ⟨p', g1, g2, _⟩ := ixIn_at ((ho l (List.mem_cons_self ..)).resolve_left z)
      simp only [List.getElem?_set]
      by_cases y : ixIn qs s l = j
      · have e : p' = q := by rw [y, hq] at g1; exact (Option.some.inj g1).symm
        subst e
        have e1 : p'.2.2.1 = s := (Prod.mk.inj g2).1
        have e2 : p'.2.2.2 = l := (Prod.mk.inj g2).2
        rw [if_neg (fun w => h1 (e2 ▸ w.2)), if_pos (⟨e1, by rw [e2]; exact List.mem_cons_self ..⟩ : p'.2.2.1 = s ∧ p'.2.2.2 ∈ l :: r), y]
        simp [lj]
      · have ne : ¬ (q.2.2.1 = s ∧ q.2.2.2 = l) := fun w => y (nd_at nd g1 hq (by rw [g2]; unfold pe; rw [w.1, w.2]))
        rw [if_neg y]
        by_cases x : q.2.2.1 = s ∧ q.2.2.2 ∈ r
        · rw [if_pos x, if_pos ⟨x.1, List.mem_cons_of_mem _ x.2⟩]
        · rw [if_neg x, if_neg (fun w => by
            rcases List.mem_cons.mp w.2 with e | e
            · exact ne ⟨w.1, e⟩
            · exact x ⟨w.1, e⟩)]
theorem giv_ct {qs : List Pipe} {ex : List (Nat × Nat)} (nb : (qs.map pb).Nodup) {s j : Nat} {r : Rw} {q : Pipe} (hq : qs[j]? = some q) : ∀ (os : List Nat) (p : List (List Bool) × List (List Bool)), os.Nodup → p.1.length = qs.length → ((os.foldl (giv1 qs ex s r) p).1[j]?).getD [] = (p.1[j]?).getD [] ++ if q.1 = s ∧ q.2.1 ∈ os then gvAt r q.2.1 else []
  | [], p, _, _ => by simp
  | o :: os, p, h, hl => by
    obtain ⟨h1, h2⟩ := List.nodup_cons.mp h
    have lj : j < p.1.length := by rw [hl]; exact (List.getElem?_eq_some_iff.mp hq).1
    have l1 : (giv1 qs ex s r p o).1.length = qs.length := by
      rw [← hl]
      unfold giv1
      split <;> simp
    rw [List.foldl_cons, giv_ct nb hq os _ h2 l1]
    unfold giv1
    cases z : qs.findIdx? (fun p => decide (pb p = (s, o))) with
    | none =>
      have ne : ¬ (q.1 = s ∧ q.2.1 = o) := fun w => by
        have := List.findIdx?_eq_none_iff.mp z q (List.mem_of_getElem? hq)
        simp [pb, w.1, w.2] at this
      show (p.1[j]?).getD [] ++ _ = _
      congr 1
      by_cases x : q.1 = s ∧ q.2.1 ∈ os
      · rw [if_pos x, if_pos ⟨x.1, List.mem_cons_of_mem _ x.2⟩]
      · rw [if_neg x, if_neg (fun w => by
          rcases List.mem_cons.mp w.2 with e | e
          · exact ne ⟨w.1, e⟩
          · exact x ⟨w.1, e⟩)]
    | some i =>
      obtain ⟨hi, hg, _⟩ := List.findIdx?_eq_some_iff_getElem.mp z
      have e1 : pb qs[i] = (s, o) := by simpa using hg
      simp only [List.getElem?_set]
      by_cases y : i = j
      · subst y
        have e : qs[i] = q := by rw [List.getElem?_eq_getElem hi] at hq; exact Option.some.inj hq
        rw [e] at e1
        have e2 : q.1 = s := (Prod.mk.inj e1).1
        have e3 : q.2.1 = o := (Prod.mk.inj e1).2
        rw [if_neg (show ¬ (q.1 = s ∧ q.2.1 ∈ os) from fun w => h1 (e3 ▸ w.2)), if_pos (⟨e2, by rw [e3]; exact List.mem_cons_self ..⟩ : q.1 = s ∧ q.2.1 ∈ o :: os), e3]
        simp [lj]
      · have ne : ¬ (q.1 = s ∧ q.2.1 = o) := fun w => y (nd_at nb (List.getElem?_eq_getElem hi) hq (by rw [e1]; unfold pb; rw [w.1, w.2]))
        rw [if_neg y]
        congr 1
        by_cases x : q.1 = s ∧ q.2.1 ∈ os
        · rw [if_pos x, if_pos ⟨x.1, List.mem_cons_of_mem _ x.2⟩]
        · rw [if_neg x, if_neg (fun w => by
            rcases List.mem_cons.mp w.2 with e | e
            · exact ne ⟨w.1, e⟩
            · exact x ⟨w.1, e⟩)]
theorem giv_fl {qs : List Pipe} {ex : List (Nat × Nat)} (nx : ex.Nodup) (dj : ∀ p ∈ qs, pb p ∉ ex) {s n : Nat} {r : Rw} {l : Nat × Nat} (hn : ex[n]? = some l) : ∀ (os : List Nat) (p : List (List Bool) × List (List Bool)), os.Nodup → p.2.length = ex.length → (∀ o ∈ os, (s, o) ∈ ex ∨ ∃ q ∈ qs, pb q = (s, o)) → ((os.foldl (giv1 qs ex s r) p).2[n]?).getD [] = (p.2[n]?).getD [] ++ if l.1 = s ∧ l.2 ∈ os then gvAt r l.2 else []
  | [], p, _, _, _ => by simp
  | o :: os, p, h, hl, ho => by
    obtain ⟨h1, h2⟩ := List.nodup_cons.mp h
    have lj : n < p.2.length := by rw [hl]; exact (List.getElem?_eq_some_iff.mp hn).1
    have l1 : (giv1 qs ex s r p o).2.length = ex.length := by
      rw [← hl]
      unfold giv1
      split <;> simp
    rw [List.foldl_cons, giv_fl nx dj hn os _ h2 l1 fun o' h' => ho o' (List.mem_cons_of_mem _ h')]
    have same : ¬ (l.1 = s ∧ l.2 = o) → (if l.1 = s ∧ l.2 ∈ os then gvAt r l.2 else []) = if l.1 = s ∧ l.2 ∈ o :: os then gvAt r l.2 else [] := fun ne => by
      by_cases x : l.1 = s ∧ l.2 ∈ os
      · rw [if_pos x, if_pos ⟨x.1, List.mem_cons_of_mem _ x.2⟩]
      · rw [if_neg x, if_neg (fun w => by
          rcases List.mem_cons.mp w.2 with e | e
          · exact ne ⟨w.1, e⟩
          · exact x ⟨w.1, e⟩)]
    unfold giv1
    cases z : qs.findIdx? (fun p => decide (pb p = (s, o))) with
    | some i =>
      obtain ⟨hi, hg, _⟩ := List.findIdx?_eq_some_iff_getElem.mp z
      have e1 : pb qs[i] = (s, o) := by simpa using hg
      have ne : ¬ (l.1 = s ∧ l.2 = o) := fun w => dj _ (List.getElem_mem hi) (by
        rw [e1, show (s, o) = l from by rw [← w.1, ← w.2]]
        exact List.mem_of_getElem? hn)
      show (p.2[n]?).getD [] ++ _ = _
      rw [same ne]
    | none =>
      have hx : (s, o) ∈ ex := (ho o (List.mem_cons_self ..)).resolve_right fun ⟨q, hq, e⟩ => by
        have := List.findIdx?_eq_none_iff.mp z q hq
        simp [e] at this
      have hi : (ex.findIdx fun l => decide (l = (s, o))) < ex.length := List.findIdx_lt_length_of_exists ⟨_, hx, by simp⟩
      have hg := List.findIdx_getElem (p := fun l => decide (l = (s, o))) (xs := ex) (w := hi)
      have e1 : ex[ex.findIdx fun l => decide (l = (s, o))] = (s, o) := of_decide_eq_true hg
      generalize hk : (ex.findIdx fun l => decide (l = (s, o))) = k at *
      simp only [List.getElem?_set]
      by_cases y : k = n
      · subst y
        have e : l = (s, o) := by rw [List.getElem?_eq_getElem hi] at hn; rw [← Option.some.inj hn]; exact e1
        subst e
        rw [if_neg (show ¬ (s = s ∧ o ∈ os) from fun w => h1 w.2), if_pos (⟨rfl, List.mem_cons_self ..⟩ : s = s ∧ o ∈ o :: os)]
        simp [lj]
      · have ne : ¬ (l.1 = s ∧ l.2 = o) := fun w => y (nd_at (f := id) (xs := ex) (by simpa using nx) (List.getElem?_eq_getElem hi) hn (by rw [e1]; show (s, o) = l; rw [← w.1, ← w.2]))
        rw [if_neg y, same ne]
end FY

set_option Elab.async false
set_option linter.all false
set_option maxRecDepth 100000
set_option maxHeartbeats 4000000
namespace FY
/-! ### the two folds make the state behind a beat -/
theorem lines_nd (r : Rd) : r.lines.Nodup := by cases r <;> decide
theorem aft_fold {ts : List Stn} {qs : List Pipe} {ex : List (Nat × Nat)} {σ : Sta} {s : Nat} {r : Rw} (nd : (qs.map pe).Nodup) (nb : (qs.map pb).Nodup) (lt : ∀ p ∈ qs, p.1 < p.2.2.1) (nx : ex.Nodup) (dj : ∀ p ∈ qs, pb p ∉ ex) (lc : σ.ct.length = qs.length) (lf : σ.fl.length = ex.length) (hl : ∀ l ∈ (sgAt ts σ s).reads.lines, LineQ qs s l) (ho : ∀ o ∈ List.range r.gives.length, (s, o) ∈ ex ∨ ∃ q ∈ qs, pb q = (s, o)) {P : List Bool × List (List Bool)} {G : List (List Bool) × List (List Bool)} (hP : P = (sgAt ts σ s).reads.lines.foldl (pop1 qs s) (σ.rs, σ.ct)) (hG : G = (List.range r.gives.length).foldl (giv1 qs ex s r) (P.2, σ.fl)) : aftS ts qs ex σ s r = ⟨σ.sd.set s r.goal, G.1, P.1, G.2⟩ := by
  have nl := lines_nd (sgAt ts σ s).reads
  have lP : P.2.length = qs.length := by rw [hP, pop_len]; exact lc
  obtain ⟨g1, g2⟩ := giv_len qs ex s r (List.range r.gives.length) (P.2, σ.fl)
  rw [← hG] at g1 g2
  have gv0 : ∀ o, ¬ o ∈ List.range r.gives.length → gvAt r o = [] := fun o h => by
    unfold gvAt
    rw [List.getElem?_eq_none (by simpa using h)]
    rfl
  unfold aftS
  show Sta.mk _ _ _ _ = Sta.mk _ _ _ _
  congr 1
  · refine List.ext_getElem? fun j => ?_
    rw [List.getElem?_mapIdx]
    cases z : qs[j]? with
    | none =>
      have h9 := List.getElem?_eq_none_iff.mp z
      rw [List.getElem?_eq_none (show G.1.length ≤ j by rw [g1]; show P.2.length ≤ j; omega)]
      rfl
    | some q =>
      have h1 := giv_ct (ex := ex) (s := s) (r := r) nb z (List.range r.gives.length) (P.2, σ.fl) List.nodup_range lP
      have h2 := pop_ct nd lt z (sgAt ts σ s).reads.lines (σ.rs, σ.ct) nl lc hl
      rw [← hG] at h1
      rw [← hP] at h2
      have lj : j < G.1.length := by rw [g1]; show j < P.2.length; have := (List.getElem?_eq_some_iff.mp z).1; omega
      rw [List.getElem?_eq_getElem lj] at h1 ⊢
      simp only [Option.map_some]
      have h1' : G.1[j] = (P.2[j]?).getD [] ++ if q.1 = s ∧ q.2.1 ∈ List.range r.gives.length then gvAt r q.2.1 else [] := h1
      rw [h1', h2]
      congr 2
      by_cases y : q.1 = s
      · by_cases x : q.2.1 ∈ List.range r.gives.length
        · rw [if_pos y, if_pos ⟨y, x⟩]
        · rw [if_pos y, if_neg (fun w => x w.2), gv0 _ x]
      · rw [if_neg y, if_neg (fun w => y w.1)]
  · have h2 := pop_rs (qs := qs) (s := s) (sgAt ts σ s).reads.lines (σ.rs, σ.ct) nl
    rw [← hP] at h2
    exact h2.symm
  · refine List.ext_getElem? fun j => ?_
    rw [List.getElem?_mapIdx]
    cases z : ex[j]? with
    | none =>
      have h9 := List.getElem?_eq_none_iff.mp z
      rw [List.getElem?_eq_none (show G.2.length ≤ j by rw [g2]; show σ.fl.length ≤ j; omega)]
      rfl
    | some q =>
      have h1 := giv_fl (s := s) (r := r) nx dj z (List.range r.gives.length) (P.2, σ.fl) List.nodup_range lf ho
      rw [← hG] at h1
      have lj : j < G.2.length := by rw [g2]; show j < σ.fl.length; have := (List.getElem?_eq_some_iff.mp z).1; omega
      rw [List.getElem?_eq_getElem lj] at h1 ⊢
      simp only [Option.map_some]
      have h1' : G.2[j] = (σ.fl[j]?).getD [] ++ if q.1 = s ∧ q.2 ∈ List.range r.gives.length then gvAt r q.2 else [] := h1
      rw [h1']
      congr 2
      by_cases y : q.1 = s
      · by_cases x : q.2 ∈ List.range r.gives.length
        · rw [if_pos y, if_pos ⟨y, x⟩]
        · rw [if_pos y, if_neg (fun w => x w.2), gv0 _ x]
      · rw [if_neg y, if_neg (fun w => y w.1)]
theorem exits_nd (ts : List Stn) (ps : List Pipe) : (exitsOf ts ps).Nodup := (lines_nodup 0 ts).filter _
theorem exits_dj (ts : List Stn) (ps : List Pipe) : ∀ p ∈ srt ps, pb p ∉ exitsOf ts ps := fun p hp h => by
  have h2 := (List.mem_filter.mp h).2
  simp only [Bool.not_eq_true', decide_eq_false_iff_not] at h2
  exact h2 (List.mem_map_of_mem ((srt_perm ps).mem_iff.mp hp))
/-- the contents stay short -/
theorem pop_short (qs : List Pipe) (s n : Nat) : ∀ (ls : List Nat) (p : List Bool × List (List Bool)), p.1.length ≤ n → (∀ b ∈ p.2, b.length ≤ n) → (ls.foldl (pop1 qs s) p).1.length ≤ n ∧ ∀ b ∈ (ls.foldl (pop1 qs s) p).2, b.length ≤ n
  | [], p, h1, h2 => ⟨h1, h2⟩
  | l :: r, p, h1, h2 => by
    rw [List.foldl_cons]
    refine pop_short qs s n r _ ?_ ?_
    · unfold pop1
      split
      · show (p.1.drop 1).length ≤ n
        rw [List.length_drop]; omega
      · exact h1
    · unfold pop1
      split
      · exact h2
      · intro b hb
        rcases List.mem_or_eq_of_mem_set hb with e | e
        · exact h2 b e
        · rw [e, List.length_drop]
          cases z : p.2[ixIn qs s l]? with
          | none => exact Nat.zero_le _
          | some c =>
            have := h2 c (List.mem_of_getElem? z)
            show c.length - 1 ≤ n
            omega
theorem giv_short (qs : List Pipe) (ex : List (Nat × Nat)) (s : Nat) (r : Rw) (hr : ∀ o, (gvAt r o).length ≤ 2) : ∀ (os : List Nat) (p : List (List Bool) × List (List Bool)) (n : Nat), (∀ b ∈ p.1, b.length ≤ n) → (∀ b ∈ p.2, b.length ≤ n) → (∀ b ∈ (os.foldl (giv1 qs ex s r) p).1, b.length ≤ n + 2 * os.length) ∧ ∀ b ∈ (os.foldl (giv1 qs ex s r) p).2, b.length ≤ n + 2 * os.length
  | [], p, n, h1, h2 => ⟨h1, h2⟩
  | o :: os, p, n, h1, h2 => by
    rw [List.foldl_cons]
    have k : ∀ (q : List (List Bool)) (i : Nat), (∀ b ∈ q, b.length ≤ n) → ∀ b ∈ q.set i ((q[i]?).getD [] ++ gvAt r o), b.length ≤ n + 2 := by
      intro q i hq b hb
      rcases List.mem_or_eq_of_mem_set hb with e | e
      · have := hq b e; omega
      · rw [e, List.length_append]
        have := hr o
        cases z : q[i]? with
        | none => show 0 + _ ≤ _; omega
        | some c =>
          have := hq c (List.mem_of_getElem? z)
          show c.length + _ ≤ _
          omega
    have w : ∀ (q : List (List Bool)), (∀ b ∈ q, b.length ≤ n) → ∀ b ∈ q, b.length ≤ n + 2 := fun q hq b hb => Nat.le_trans (hq b hb) (by omega)
    have := giv_short qs ex s r hr os (giv1 qs ex s r p o) (n + 2) (by
      unfold giv1
      split
      · exact k _ _ h1
      · exact w _ h1) (by
      unfold giv1
      split
      · exact w _ h2
      · exact k _ _ h2)
    rw [show n + 2 * (o :: os).length = n + 2 + 2 * os.length by simp; omega]
    exact this
end FY

set_option Elab.async false
set_option linter.all false
set_option maxRecDepth 100000
set_option maxHeartbeats 4000000
namespace FY
open PySem L2 FYR
theorem cut_from1 (bs : List Bool) : cutS (tx bs) (some (1 : Int)) none = tx (bs.drop 1) := by
  rw [cut_tx, HT.sIx_none, show (1 : Int) = ((1 : Nat) : Int) from rfl, HT.sIx_nat]
  congr 1
  cases bs with
  | nil => rfl
  | cons a r => simp [List.take_of_length_le]
theorem ixN_nat {n j : Nat} (h : j < n) : ixN n (j : Int) = some j := by
  unfold ixN
  rw [if_pos (by omega), if_pos (by omega)]
  rfl
theorem gv_short {r : Rw} {a b : Nat} (h : r.ok a b) (o : Nat) : (gvAt r o).length ≤ 2 := by
  unfold gvAt
  cases z : r.gives[o]? with
  | none => exact Nat.zero_le _
  | some g => exact h.2.1 g (List.mem_of_getElem? z)
def spAfter (CY C : Addr) : Sp := fun vs H Q _ => ∃ (y : Addr) (v : V) (σ : Sta) (s : Nat) (t : Stn) (r : Rw) (ts : List Stn) (ps : List Pipe), vs = [.ref y, v, .int (s : Nat)] ∧ YdA CY C H y ts ps ∧ StaA H v σ ∧ StOk ts ps σ ∧ (∀ b ∈ σ.fl, b.length ≤ 100000) ∧ YdOk ts ps ∧ AllIn ts (srt ps) ∧ ts[s]? = some t ∧ rowS ts (srt ps) σ s = some r ∧ ∀ H' u, Same H H' → StaA H' u (aftS ts (srt ps) (exitsOf ts ps) σ s r) → Q u H'
section
variable {P : Program} {w : World} {K : PySem.W.Frag} {mg : Str → Option Value} {base : Heap} {aS a1 a2 aL aT : Addr} {f : Addr} {fd : FuncData} {C CD CY : Addr} {mc : Value}
abbrev s_after_beat : Stmt := top 58
abbrev N_after_beat : List Str := ["yard", "state", "station", "standings", "contents", "flows", "rest", "gives", "goal", "ticks", "reads", "line", "place", "text", "is_pipe"]
theorem sc_after_beat : FnScope N_after_beat ["yard", "state", "station"] (defScope s_after_beat) := ⟨rfl, rfl, rfl, by decide +kernel, rfl, by decide +kernel, by decide +kernel⟩
theorem ok_after_beat (F : Fun K "after_beat" "after_beat" s_after_beat f fd) (T : Txt K mg aS a1 a2) (L : Lin K w mg aL) (LT : LinT K aL) (S : StC K mg C) (Y : YdF K CY) (c_beat_row : C8.Cal P w K mg base 2 "beat_row" (spBeatRow CY C) []) : FnOk P w K mg base CX0 3 f fd ["yard", "state", "station"] (spAfter CY C) := by
  refine F.ok sc_after_beat (fun vs H Q E h => ?_) (fun cdv A outer s0 H vs Q E hr h => ?_)
  · obtain ⟨y, v, σ, s, t, r, ts, ps, rfl, _⟩ := h
    rfl
  obtain ⟨y, v, σ, s, t, r, ts, ps, rfl, ya, sa, so, fb, yo, al, et, er, q⟩ := h
  obtain ⟨esL, nL, kd⟩ := L.kd
  have sa0 := sa
  obtain ⟨va, vp, vq, vr, rfl, h1, h2, h3, h4⟩ := sa
  have tok := yo.ok t (List.mem_of_getElem? et)
  have rok := row_in so et tok er
  refine ⟨_, (pss_cons (ps_par3 (i := 3) (j := 4) (l := 5) rfl sc_after_beat.nd rfl rfl rfl (by decide) (by decide) (by decide) rfl rfl rfl (pa_cons (pe_callTy call_list_of rfl T.b_list bt_list (pa_cons (pe_ix (kIxT K rfl) (pv 1) pe_int (fun _ _ => rfl)) pa_nil)) (pa_cons (pe_callTy call_list_of rfl T.b_list bt_list (pa_cons (pe_ix (kIxT K rfl) (pv 1) pe_int (fun _ _ => rfl)) pa_nil)) (pa_cons (pe_callTy call_list_of rfl T.b_list bt_list (pa_cons (pe_ix (kIxT K rfl) (pv 1) pe_int (fun _ _ => rfl)) pa_nil)) pa_nil))) rfl)
        (pss_cons (ps_set (i := 6) sc_after_beat.nd rfl (Or.inl rfl) (pe_ix (kIxT K rfl) (pv 1) pe_int (fun _ _ => rfl)))
        (pss_cons (ps_asg (C8.pe_c c_beat_row hr (by decide) rfl (pa_cons (pv 0) (pa_cons (pv 1) (pa_cons (pv 2) pa_nil)))) (kTupG (n := 3) K rfl rfl (pgs_cons (pg_name (i := 7) sc_after_beat.nd rfl (Or.inl rfl)) (pgs_cons (pg_name (i := 8) sc_after_beat.nd rfl (Or.inl rfl)) (pgs_cons (pg_name (i := 9) sc_after_beat.nd rfl (Or.inl rfl)) pgs_nil)))))
        (pss_cons (ps_set (i := 10) sc_after_beat.nd rfl (Or.inl rfl) (pe_ix (kIxT K rfl) (pe_ix (kIxT K rfl) (kFld K rfl (pe_ix (kIxT K rfl) (kFld K rfl (pv 0)) (pv 2) (fun _ _ => rfl))) (pe_ix (kIxL K rfl) (pv 3) (pv 2) (fun _ _ => rfl)) (fun _ _ => rfl)) pe_int (fun _ _ => rfl)))
        (pss_cons (ps_for PassesOwn.never rfl (kTup K rfl (pe_kd rfl rfl kd (C8.pe_gc rfl L.g_LINES) (pv 10) (fun _ _ => rfl))) (pg_name (i := 11) sc_after_beat.nd rfl (Or.inl rfl))
        (pss_one (ps_if (pt_cmpR (kEqD K rfl hr.units) (pe_tup (pa_cons (pv 2) (pa_cons (pv 11) pa_nil))) (pe_tup (pa_cons pe_int (pa_cons pe_int pa_nil))) (nomark _))
        (pss_one (ps_set (i := 6) sc_after_beat.nd rfl (Or.inl rfl) (pe_slice sl_str (pv 6) (po_some pe_int) po_none)))
        (pss_cons (ps_set (i := 12) sc_after_beat.nd rfl (Or.inl rfl) (pe_dget (hu1 hr) (kFld K rfl (pv 0)) (pe_tup (pa_cons (pv 2) (pa_cons (pv 11) pa_nil))) (fun _ _ => rfl)))
        (pss_one (ps_asg (pe_slice sl_str (pe_ix (kIxL K rfl) (pv 4) (pv 12) (fun _ _ => rfl)) (po_some pe_int) po_none) (pg_sub (pv 4) (pv 12) set_list)))))))
        (pss_cons (ps_for PassesOwn.never rfl (pi_enumT K rfl rfl T.b_enumerate (pa_cons (pv 7) pa_nil)) (kTupG (n := 2) K rfl rfl (pgs_cons (pg_name (i := 11) sc_after_beat.nd rfl (Or.inl rfl)) (pgs_cons (pg_name (i := 13) sc_after_beat.nd rfl (Or.inl rfl)) pgs_nil)))
        (pss_cons (ps_asg (pe_dget (hu1 hr) (kFld K rfl (pv 0)) (pe_tup (pa_cons (pv 2) (pa_cons (pv 11) pa_nil))) (fun _ _ => rfl)) (kTupG (n := 2) K rfl rfl (pgs_cons (pg_name (i := 14) sc_after_beat.nd rfl (Or.inl rfl)) (pgs_cons (pg_name (i := 12) sc_after_beat.nd rfl (Or.inl rfl)) pgs_nil))))
        (pss_one (ps_if (pt_val (pv 14))
        (pss_one (ps_asg (pe_op op_add_str (pe_ix (kIxL K rfl) (pv 4) (pv 12) (fun _ _ => rfl)) (pv 13)) (pg_sub (pv 4) (pv 12) set_list)))
        (pss_one (ps_asg (pe_op op_add_str (pe_ix (kIxL K rfl) (pv 5) (pv 12) (fun _ _ => rfl)) (pv 13)) (pg_sub (pv 5) (pv 12) set_list)))))))
        (pss_cons (ps_asg (pv 8) (pg_sub (pv 3) (pv 2) set_list))
        (pss_one (ps_ret (pe_tup (pa_cons (pe_callTy (kTupOf K rfl) rfl T.b_tuple bt_tuple (pa_cons (pv 3) pa_nil)) (pa_cons (pe_callTy (kTupOf K rfl) rfl T.b_tuple bt_tuple (pa_cons (pv 4) pa_nil)) (pa_cons (pv 6) (pa_cons (pe_callTy (kTupOf K rfl) rfl T.b_tuple bt_tuple (pa_cons (pv 5) pa_nil)) pa_nil)))))))))))))), ?_⟩
  refine ⟨_, rfl, _, _, _, _, rfl, rfl, SqT.of h1, atI_nat (i := 0) rfl, _, _, rfl, .inr (SqT.of h2), fun S1 hS1 => ?_⟩
  have k1 := same_new hS1 (.lst (nV σ.sd))
  refine ⟨_, rfl, _, _, _, _, rfl, rfl, SqT.of (k1 _ _ h1), atI_nat (i := 1) rfl, _, _, rfl, .inr (SqT.of (k1 _ _ h3)), fun S2 hS2 => ?_⟩
  have k2 := same_new hS2 (.lst (tV σ.ct))
  have s2 := k1.trans' k2
  refine ⟨_, rfl, _, _, _, _, rfl, rfl, SqT.of (s2 _ _ h1), atI_nat (i := 3) rfl, _, _, rfl, .inr (SqT.of (s2 _ _ h4)), fun S3 hS3 => ⟨_, _, _, rfl, ?_⟩⟩
  have k3 := same_new hS3 (.lst (tV σ.fl))
  have s4 := s2.trans' k3
  have e1 := (k2.trans' k3) S1 _ upd_same
  have e2 := k3 S2 _ upd_same
  have e3 : (upd (upd (upd H S1 (.lst (nV σ.sd))) S2 (.lst (tV σ.ct))) S3 (.lst (tV σ.fl))) S3 = some (.lst (tV σ.fl)) := upd_same
  refine ⟨_, rfl, _, _, _, _, rfl, rfl, SqT.of (s4 _ _ h1), atI_nat (i := 2) rfl, ?_⟩
  refine ⟨_, rfl, _, rfl, _, rfl, y, .ref va, σ, s, t, ts, ps, rfl, ya.nl (NL.of s4), sa0.keep (Tups.of s4), so, et, tok, al, fun H5 u s5 ru => ?_⟩
  rw [er] at ru
  obtain ⟨ra, rg, rfl, hra, hrg⟩ := ru
  have s5' := s4.trans' s5
  refine ⟨_, _, rfl, SqT.of hra, rfl, _, _, rfl, _, _, rfl, _, _, rfl, rfl, ?_⟩
  have ya5 := ya.nl (NL.of s5')
  obtain ⟨dx, a, b, c, d, e, f', hy, ⟨us, ha, pus⟩, _⟩ := ya5.ob
  obtain ⟨u, hu, sA, sdx, sp, sps, rfl, hsa, hsp, psg⟩ := paired_at pus et
  have ls : s < σ.sd.length := by rw [so.ls]; exact lt_len et
  have eg : σ.sd[s]? = some σ.sd[s] := List.getElem?_eq_getElem ls
  have lg := so.st s t _ et eg
  have esg : t.stgs[σ.sd[s]]? = some t.stgs[σ.sd[s]] := List.getElem?_eq_getElem lg
  obtain ⟨gv, hgv, ga, gq, gws, rfl, hga, hgq, prw⟩ := paired_at psg esg
  have sgok := tok.sg _ (List.getElem_mem lg)
  have eS : sgAt ts σ s = t.stgs[σ.sd[s]] := by unfold sgAt; rw [et, eg]; show (t.stgs[σ.sd[s]]?).getD _ = _; rw [esg]; rfl
  generalize hsg : t.stgs[σ.sd[s]] = sg at *
  refine ⟨_, rfl, y, CY, dx, _, _, rfl, hy, Y.cl, Y.nS, rfl, _, rfl, _, _, _, _, rfl, rfl, SqT.of ha, atI_nat hu, sA, C, sdx, _, _, rfl, hsa, S.cl, S.nS, rfl, _, rfl, _, rfl, _, _, _, _, rfl, rfl, SqL.of (s5 _ _ e1), atI_nat (nV_at ls), _, _, _, _, rfl, rfl, SqT.of hsp, atI_nat hgv, _, _, _, _, rfl, rfl, SqT.of hga, atI_nat (i := 0) rfl, ?_⟩
  obtain ⟨la, hla, sqL⟩ := LT.ln sg.reads
  have ya5' := ya5
  obtain ⟨dx2, b1, b2, b3, b4, b5, b6, kv, kw, hy2, he2, hi2, hf2, on⟩ := ya5'.dc
  have lq : ∀ l ∈ sg.reads.lines, LineQ (srt ps) s l := fun l hl => all_line al et (sg_lines sgok tok.i1 hl)
  have PPs := fun ls : List Nat => pop_short (srt ps) s 100000 ls (σ.rs, σ.ct) so.rb so.cb
  have PPl := fun ls : List Nat => pop_len (srt ps) s ls (σ.rs, σ.ct)
  have e1' := s5 _ _ e1
  have e2' := s5 _ _ e2
  have e3' := s5 _ _ e3
  have n12 : S1 ≠ S2 := ne_of_none upd_same hS2
  have n13 : S1 ≠ S3 := ne_of_none (k2 _ _ upd_same) hS3
  have n23 : S2 ≠ S3 := ne_of_none upd_same hS3
  have hn2 : H S2 = none := by cases z : H S2 with | none => rfl | some o => exact absurd (k1 _ _ z) (by rw [hS2]; exact nofun)
  have hn3 : H S3 = none := by cases z : H S3 with | none => rfl | some o => exact absurd (s2 _ _ z) (by rw [hS3]; exact nofun)
  refine ⟨_, rfl, _, _, V.ref la, rfl, rfl, hla, rfl, _, rfl, ⟨_, sqL _⟩, for_it walk_tup (fun i τ H' => (∃ a b c d, τ = [some (.ref y), some (.ref va), some (.int (s : Nat)), some (.ref S1), some (.ref S2), some (.ref S3), some (.str (tx ((sg.reads.lines.take i).foldl (pop1 (srt ps) s) (σ.rs, σ.ct)).1)), some (.ref rg), some (.int (r.goal : Nat)), some (.int (r.ticks : Nat)), some (.str sg.reads.s), a, b, c, d]) ∧ Same H H' ∧ NL H5 H' ∧ H' S1 = some (.lst (nV σ.sd)) ∧ H' S2 = some (.lst (tV ((sg.reads.lines.take i).foldl (pop1 (srt ps) s) (σ.rs, σ.ct)).2)) ∧ H' S3 = some (.lst (tV σ.fl))) ⟨⟨_, _, _, _, rfl⟩, s5', NL.of (Same.refl _), e1', e2', e3'⟩ (fun i τ H' _ z => sqL _) ?_ ?_⟩
  · rintro i x τ G1 G2 hi ⟨⟨a, b, c, d, rfl⟩, sm, nl, g1, g2, g3⟩ ⟨rfl, hx⟩
    obtain ⟨l, hl, rfl⟩ := List.getElem?_map_some hx
    have hlm := List.mem_of_getElem? hl
    have eT : sg.reads.lines.take (i + 1) = sg.reads.lines.take i ++ [l] := by rw [List.take_succ, hl]; rfl
    have eF : (sg.reads.lines.take (i + 1)).foldl (pop1 (srt ps) s) (σ.rs, σ.ct) = pop1 (srt ps) s ((sg.reads.lines.take i).foldl (pop1 (srt ps) s) (σ.rs, σ.ct)) l := by rw [eT, List.foldl_append]; rfl
    obtain ⟨p1s, p2s⟩ := PPs (sg.reads.lines.take i)
    have plen := PPl (sg.reads.lines.take i)
    generalize hP0 : (sg.reads.lines.take i).foldl (pop1 (srt ps) s) (σ.rs, σ.ct) = P0 at *
    refine ⟨_, rfl, _, rfl, sz rfl, fun p1 hp1 => ⟨sz rfl, fun p2 hp2 => ?_⟩⟩
    have k1 := same_new hp1 (.tup [.int (s : Nat), .int (l : Nat)])
    have k2 := same_new hp2 (.tup [.int 0, .int 0])
    have k12 := k1.trans' k2
    refine ⟨.tuple [.int (s : Nat), .int (l : Nat)], .tuple [.int ((0 : Nat) : Int), .int ((0 : Nat) : Int)], .tup (SqT.of (k2 _ _ upd_same)) (.cons (.int _) (.cons (.int _) .nil)), .tup (SqT.of upd_same) (.cons (.int _) (.cons (.int _) .nil)), by rfl, by rfl, _, rfl, ?_⟩
    rw [eqv_nn]
    have e4 : (s, l) = (0, 0) ∨ (s, l) ≠ (0, 0) := by by_cases z : (s, l) = (0, 0); exact .inl z; exact .inr z
    rcases e4 with z | z
    · refine iteTd (decide_eq_true z) ⟨_, rfl, 1, rfl, _, rfl, by rw [tx_len]; exact Nat.le_trans p1s (by decide), ?_⟩
      have eP : pop1 (srt ps) s P0 l = (P0.1.drop 1, P0.2) := by unfold pop1; rw [if_pos z]
      rw [cut_from1]
      dsimp only
      rw [eF, eP]
      exact ⟨⟨_, _, _, _, rfl⟩, sm.trans' k12, nl.trans (NL.of k12), k12 _ _ g1, k12 _ _ g2, k12 _ _ g3⟩
    · refine iteFd (decide_eq_false z) ⟨_, rfl, y, CY, dx2, _, _, rfl, k12 _ _ (nl _ _ (fun _ z => nomatch z) (fun _ z => nomatch z) hy2), Y.cl, Y.nI, rfl, _, rfl, _, rfl, sz rfl, fun p3 hp3 => ?_⟩
      have k3 := same_new hp3 (.tup [.int (s : Nat), .int (l : Nat)])
      have k13 := k12.trans' k3
      obtain ⟨pp, q1, q2, q3⟩ := ixIn_at ((lq l hlm).resolve_left z)
      have v1 := hi2 _ _ q1
      rw [q2] at v1
      refine ⟨_, _, rfl, .inr ⟨kv, kL2 (s, l), p3, .inl (k13 _ _ (nl _ _ (fun _ z => nomatch z) (fun _ z => nomatch z) he2)), rfl, upd_same, v1.symm⟩, ?_⟩
      have lj : ixIn (srt ps) s l < P0.2.length := by rw [plen]; show _ < σ.ct.length; rw [so.lc]; exact lt_len q1
      have eP : pop1 (srt ps) s P0 l = (P0.1, P0.2.set (ixIn (srt ps) s l) (P0.2[ixIn (srt ps) s l].drop 1)) := by unfold pop1; rw [if_neg z, List.getElem?_eq_getElem lj]; rfl
      refine ⟨_, rfl, _, rfl, _, _, _, _, rfl, rfl, SqL.of (k13 _ _ g2), atI_nat (tV_at lj), 1, rfl, _, rfl, by rw [tx_len]; exact Nat.le_trans (p2s _ (List.getElem_mem lj)) (by decide), ?_⟩
      rw [cut_from1]
      refine ⟨_, rfl, _, rfl, _, _, _, _, rfl, rfl, k13 _ _ g2, ixN_nat (by rw [tV_len]; exact lj), ?_⟩
      dsimp only
      rw [eF, eP, tV_set]
      exact ⟨⟨_, _, _, _, rfl⟩, same_at (sm.trans' k13) hn2, (nl.trans (NL.of k13)).trans (NL.at (k13 _ _ g2)), (upd_ne n12).trans (k13 _ _ g1), upd_same, (upd_ne n23.symm).trans (k13 _ _ g3)⟩
  rintro τ H6 ⟨⟨a, b, c, d, rfl⟩, sm, nl, g1, g2, g3⟩
  rw [nV_len, List.take_length] at g2
  rw [nV_len, List.take_length]
  obtain ⟨p1s, p2s⟩ := PPs sg.reads.lines
  have plen := PPl sg.reads.lines
  have hPe : sg.reads.lines.foldl (pop1 (srt ps) s) (σ.rs, σ.ct) = (sgAt ts σ s).reads.lines.foldl (pop1 (srt ps) s) (σ.rs, σ.ct) := by rw [eS]
  generalize hP0 : sg.reads.lines.foldl (pop1 (srt ps) s) (σ.rs, σ.ct) = P0 at *
  have gs := giv_short (srt ps) (exitsOf ts ps) s r (gv_short rok)
  have gl := giv_len (srt ps) (exitsOf ts ps) s r
  have r2 : r.gives.length ≤ 2 := by rw [rok.1]; exact tok.o2
  have hrg6 := nl.tups _ _ hrg
  refine ⟨_, rfl, _, _, rfl, SqT.of hrg6, for_it walk_enumT (fun i τ H' => (∃ a b c d, τ = [some (.ref y), some (.ref va), some (.int (s : Nat)), some (.ref S1), some (.ref S2), some (.ref S3), some (.str (tx P0.1)), some (.ref rg), some (.int (r.goal : Nat)), some (.int (r.ticks : Nat)), some (.str sg.reads.s), a, b, c, d]) ∧ Same H H' ∧ NL H5 H' ∧ H' S1 = some (.lst (nV σ.sd)) ∧ H' S2 = some (.lst (tV ((List.range i).foldl (giv1 (srt ps) (exitsOf ts ps) s r) (P0.2, σ.fl)).1)) ∧ H' S3 = some (.lst (tV ((List.range i).foldl (giv1 (srt ps) (exitsOf ts ps) s r) (P0.2, σ.fl)).2))) ⟨⟨_, _, _, _, rfl⟩, sm, nl, g1, g2, g3⟩ (fun i τ H' _ z => SqT.of (z.2.2.1.tups _ _ hrg)) ?_ ?_⟩
  · rintro i x τ G1 G2 hi ⟨⟨a, b, c, d, rfl⟩, sm, nl, g1, g2, g3⟩ ⟨T0, i1, i2, rfl, hT0, rfl, hi1, hi2'⟩
    obtain rfl : V.int (i : Nat) = i1 := Option.some.inj hi1
    obtain ⟨g, hg, rfl⟩ := List.getElem?_map_some hi2'
    have eg : gvAt r i = g := by unfold gvAt; rw [hg]; rfl
    have gl2 : g.length ≤ 2 := rok.2.1 g (List.mem_of_getElem? hg)
    have ig := lt_len hg
    have io : i < t.outs := by rw [← rok.1]; exact ig
    have eF : (List.range (i + 1)).foldl (giv1 (srt ps) (exitsOf ts ps) s r) (P0.2, σ.fl) = giv1 (srt ps) (exitsOf ts ps) s r ((List.range i).foldl (giv1 (srt ps) (exitsOf ts ps) s r) (P0.2, σ.fl)) i := by rw [List.range_succ, List.foldl_append]; rfl
    obtain ⟨s1, s2'⟩ := gs (List.range i) (P0.2, σ.fl) 100000 p2s fb
    obtain ⟨l1, l2⟩ := gl (List.range i) (P0.2, σ.fl)
    rw [List.length_range] at s1 s2'
    generalize hQ0 : (List.range i).foldl (giv1 (srt ps) (exitsOf ts ps) s r) (P0.2, σ.fl) = Q0 at *
    have k0 := same_new hT0 (.tup [.int (i : Nat), .str (tx g)])
    refine ⟨_, _, rfl, SqT.of upd_same, rfl, _, _, rfl, _, _, rfl, rfl, _, rfl, y, CY, dx2, _, _, rfl, k0 _ _ (nl _ _ (fun _ z => nomatch z) (fun _ z => nomatch z) hy2), Y.cl, Y.nO, rfl, _, rfl, _, rfl, sz rfl, fun p3 hp3 => ?_⟩
    have k3 := same_new hp3 (.tup [.int (s : Nat), .int (i : Nat)])
    have k03 := k0.trans' k3
    have nl3 := nl.trans (NL.of k03)
    cases zf : (srt ps).findIdx? (fun p => decide (pb p = (s, i))) with
    | none =>
      have hx : (s, i) ∈ exitsOf ts ps := (out_ok (ps := ps) et io).resolve_right fun ⟨q, hq, e⟩ => by
        have := List.findIdx?_eq_none_iff.mp zf q hq
        simp [e] at this
      have hxi : ((exitsOf ts ps).findIdx fun l => decide (l = (s, i))) < (exitsOf ts ps).length := List.findIdx_lt_length_of_exists ⟨_, hx, by simp⟩
      have hxg : (exitsOf ts ps)[(exitsOf ts ps).findIdx fun l => decide (l = (s, i))]? = some (s, i) := by
        rw [List.getElem?_eq_getElem hxi]
        exact congrArg some (of_decide_eq_true (List.findIdx_getElem (p := fun l => decide (l = (s, i))) (xs := exitsOf ts ps) (w := hxi)))
      obtain ⟨a9, v9, h9⟩ := on.2 _ _ hxg
      have eP : giv1 (srt ps) (exitsOf ts ps) s r Q0 i = (Q0.1, Q0.2.set ((exitsOf ts ps).findIdx fun l => decide (l = (s, i))) ((Q0.2[(exitsOf ts ps).findIdx fun l => decide (l = (s, i))]?).getD [] ++ g)) := by unfold giv1; rw [zf, eg]
      generalize hn : ((exitsOf ts ps).findIdx fun l => decide (l = (s, i))) = n at *
      have lj : n < Q0.2.length := by rw [l2]; show _ < σ.fl.length; rw [so.lf]; exact hxi
      rw [List.getElem?_eq_getElem lj] at eP
      refine ⟨_, _, rfl, .inr ⟨kw, kL2 (s, i), p3, .inl (nl3 _ _ (fun _ z => nomatch z) (fun _ z => nomatch z) hf2), rfl, upd_same, v9.symm⟩, _, _, rfl, SqT.of (nl3.tups _ _ h9), rfl, _, _, rfl, _, _, rfl, rfl, _, rfl, _, rfl, iteF ?_⟩
      refine ⟨_, rfl, _, rfl, _, _, _, _, rfl, rfl, SqL.of (k03 _ _ g3), atI_nat (tV_at lj), _, rfl, _, _, rfl, rfl, by rw [tx_len, tx_len]; exact Nat.le_trans (Nat.add_le_add (s2' _ (List.getElem_mem lj)) gl2) (Nat.le_trans (show 100000 + 2 * i + 2 ≤ 200000 by omega) (by decide)), ?_⟩
      rw [tx_app]
      refine ⟨_, rfl, _, rfl, _, _, _, _, rfl, rfl, k03 _ _ g3, ixN_nat (by rw [tV_len]; exact lj), ?_⟩
      dsimp only
      rw [eF, eP, tV_set]
      exact ⟨⟨_, _, _, _, rfl⟩, same_at (sm.trans' k03) hn3, nl3.trans (NL.at (k03 _ _ g3)), (upd_ne n13).trans (k03 _ _ g1), (upd_ne n23).trans (k03 _ _ g2), upd_same⟩
    | some j =>
      obtain ⟨j', a9, f9, j9, v9, h9⟩ := onto_pipe on (s := s) (o := i) (by
        obtain ⟨hi, hg, _⟩ := List.findIdx?_eq_some_iff_getElem.mp zf
        exact ⟨_, List.getElem_mem hi, by simpa using hg⟩)
      obtain rfl : j' = j := by rw [zf] at f9; exact (Option.some.inj f9).symm
      have lj : j' < Q0.1.length := by rw [l1, plen]; show _ < σ.ct.length; rw [so.lc]; exact j9
      have eP : giv1 (srt ps) (exitsOf ts ps) s r Q0 i = (Q0.1.set j' (Q0.1[j'] ++ g), Q0.2) := by unfold giv1; rw [zf, eg]; show (Q0.1.set j' ((Q0.1[j']?).getD [] ++ g), Q0.2) = _; rw [List.getElem?_eq_getElem lj]; rfl
      refine ⟨_, _, rfl, .inr ⟨kw, kL2 (s, i), p3, .inl (nl3 _ _ (fun _ z => nomatch z) (fun _ z => nomatch z) hf2), rfl, upd_same, v9.symm⟩, _, _, rfl, SqT.of (nl3.tups _ _ h9), rfl, _, _, rfl, _, _, rfl, rfl, _, rfl, _, rfl, iteT ?_⟩
      refine ⟨_, rfl, _, rfl, _, _, _, _, rfl, rfl, SqL.of (k03 _ _ g2), atI_nat (tV_at lj), _, rfl, _, _, rfl, rfl, by rw [tx_len, tx_len]; exact Nat.le_trans (Nat.add_le_add (s1 _ (List.getElem_mem lj)) gl2) (Nat.le_trans (show 100000 + 2 * i + 2 ≤ 200000 by omega) (by decide)), ?_⟩
      rw [tx_app]
      refine ⟨_, rfl, _, rfl, _, _, _, _, rfl, rfl, k03 _ _ g2, ixN_nat (by rw [tV_len]; exact lj), ?_⟩
      dsimp only
      rw [eF, eP, tV_set]
      exact ⟨⟨_, _, _, _, rfl⟩, same_at (sm.trans' k03) hn2, nl3.trans (NL.at (k03 _ _ g2)), (upd_ne n12).trans (k03 _ _ g1), upd_same, (upd_ne n23.symm).trans (k03 _ _ g3)⟩
  rintro τ H7 ⟨⟨a, b, c, d, rfl⟩, sm, nl, g1, g2, g3⟩
  have lg7 : (r.gives.map fun b => V.str (tx b)).length = r.gives.length := List.length_map _
  rw [lg7] at g2 g3
  have eA := aft_fold (ts := ts) (σ := σ) (s := s) (r := r) (ex := exitsOf ts ps) (qs := srt ps) (((srt_perm ps).map pe).symm.nodup yo.ne) (((srt_perm ps).map pb).symm.nodup yo.nb) (fun p hp => (yo.pp p ((srt_perm ps).mem_iff.mp hp)).1) (exits_nd ts ps) (exits_dj ts ps) so.lc so.lf (by rw [eS]; exact lq) (fun o ho => out_ok (ps := ps) et (by rw [← rok.1]; exact List.mem_range.mp ho)) hPe rfl
  generalize hG : (List.range r.gives.length).foldl (giv1 (srt ps) (exitsOf ts ps) s r) (P0.2, σ.fl) = G at *
  refine ⟨_, rfl, _, rfl, _, rfl, _, _, _, _, rfl, rfl, g1, ixN_nat (by rw [nV_len]; exact ls), ?_⟩
  rw [nV_set]
  have u2 := (upd_ne (H := H7) (o := .lst (nV (σ.sd.set s r.goal))) n12.symm).trans g2
  have u3 := (upd_ne (H := H7) (o := .lst (nV (σ.sd.set s r.goal))) n13.symm).trans g3
  refine ⟨_, rfl, _, _, rfl, .inl ⟨SqL.of upd_same, fun t1 ht1 => ?_⟩⟩
  have j1 := same_new ht1 (.tup (nV (σ.sd.set s r.goal)))
  refine ⟨_, rfl, _, _, rfl, .inl ⟨SqL.of (j1 _ _ u2), fun t2 ht2 => ?_⟩⟩
  have j2 := same_new ht2 (.tup (tV G.1))
  have j12 := j1.trans' j2
  refine ⟨_, rfl, _, rfl, _, _, rfl, .inl ⟨SqL.of (j12 _ _ u3), fun t3 ht3 => ⟨sz rfl, fun t4 ht4 => ?_⟩⟩⟩
  have j3 := same_new ht3 (.tup (tV G.2))
  have j4 := same_new ht4 (.tup [.ref t1, .ref t2, .str (tx P0.1), .ref t3])
  have j34 := j3.trans' j4
  refine q _ _ ((same_at sm hS1).trans' (j12.trans' j34)) ?_
  rw [eA]
  exact ⟨t4, t1, t2, t3, rfl, upd_same, (j2.trans' j34) _ _ upd_same, j34 _ _ upd_same, j4 _ _ upd_same⟩
end
end FY


set_option Elab.async false
set_option linter.all false
set_option maxRecDepth 100000
set_option maxHeartbeats 4000000
namespace FY
open PySem L2 FYR
def SzIn : Option (List Nat) → Prop
  | none => True
  | some zs => ∀ z ∈ zs, 1 ≤ z ∧ z ≤ 3
def FlOk (σ : Sta) : Prop := ∀ b ∈ σ.fl, b.length ≤ 100000
def spWSt (CY C : Addr) : Sp := fun vs H Q _ => ∃ (y : Addr) (s : Nat) (ts : List Stn) (ps : List Pipe), vs = [.ref y, .int (s : Nat)] ∧ YdA CY C H y ts ps ∧ YdOk ts ps ∧ s < ts.length ∧ Q .non H
def spSizes (CY C : Addr) : Sp := fun vs H Q _ => ∃ (y Z : Addr) (zs : List Nat) (ts : List Stn) (ps : List Pipe), vs = [.ref y, .ref Z] ∧ YdA CY C H y ts ps ∧ H Z = some (.tup (nV zs)) ∧ zs.length = (srt ps).length ∧ zs.length ≤ 100 ∧ (∀ z ∈ zs, 1 ≤ z ∧ z ≤ 3) ∧ ∀ H', Same H H' → Q (.bl true) H'
def spWSz (CY C : Addr) : Sp := fun vs H Q _ => ∃ (y : Addr) (zv : V) (z : Option (List Nat)) (ts : List Stn) (ps : List Pipe), vs = [.ref y, zv] ∧ YdA CY C H y ts ps ∧ YdOk ts ps ∧ SzA H zv z ∧ SzOk ps z ∧ SzIn z ∧ ∀ H', Same H H' → Q .non H'
section
variable {P : Program} {w : World} {K : PySem.W.Frag} {mg : Str → Option Value} {base : Heap} {aS a1 a2 aL aT : Addr} {f : Addr} {fd : FuncData} {C CD CY : Addr} {mc : Value}
abbrev s_are_sizes : Stmt := top 48
abbrev N_are_sizes : List Str := ["yard", "value", "size"]
theorem sc_are_sizes : FnScope N_are_sizes ["yard", "value"] (defScope s_are_sizes) := ⟨rfl, rfl, rfl, by decide +kernel, rfl, by decide +kernel, by decide +kernel⟩
theorem ok_are_sizes (F : Fun K "are_sizes" "are_sizes" s_are_sizes f fd) (T : Txt K mg aS a1 a2) (Y : YdF K CY) (c_is_integer : C8.Cal P w K mg base 1 "is_integer" spIsInt []) : FnOk P w K mg base CX0 2 f fd ["yard", "value"] (spSizes CY C) := by
  refine F.ok sc_are_sizes (fun vs H Q E h => ?_) (fun cdv A outer s0 H vs Q E hr h => ?_)
  · obtain ⟨y, Z, zs, ts, ps, rfl, _⟩ := h
    rfl
  obtain ⟨y, Z, zs, ts, ps, rfl, ya, hZ, lz, l1, z3, q⟩ := h
  obtain ⟨dx, a, b, c, d, e, f', hy, _, ⟨ws, hb, pws⟩, _⟩ := ya.ob
  refine ⟨_, (pss_cons (ps_if (PW.pt (pw_or (pt_not (pt_val (pe_callB (kIsi K rfl) rfl T.b_isinstance bt_isinstance (pa_cons (pv 1) (pa_cons (pTy rfl T.b_tuple bt_tuple) pa_nil))))) (pw_or1 (pt_cmpR op_ne (pe_callB (kLen K rfl) rfl T.b_len bt_len (pa_cons (pv 1) pa_nil)) (pe_callB (kLen K rfl) rfl T.b_len bt_len (pa_cons (kFld K rfl (pv 0)) pa_nil)) (nomark _)))))
        (pss_one (ps_ret pe_bl))
        pss_nil)
        (pss_one (ps_ret (pe_callB (kAll K rfl rfl) rfl T.b_all bt_all (pa_cons (pe_lc (own := [("size", 2)]) rfl sc_are_sizes.nd (kTup K rfl (pv 1)) (blkOk_by (N := N_are_sizes) (sc := defScope s_are_sizes) (by decide +kernel)) (fun _ _ _ _ _ => (pg_name (i := 2) sc_are_sizes.nd rfl (Or.inl rfl))) (fun _ _ _ _ _ => pts_nil) (fun _ _ _ _ _ => (pe_and (C8.pe_c c_is_integer hr (by decide) rfl (pa_cons (pv 2) pa_nil)) (pe_one (pe_chain op_le op_le pe_int (pv 2) (C8.pe_gc rfl T.g_MOST_SIZE)))))) pa_nil))))), ?_⟩
  refine ⟨_, rfl, _, _, _, _, _, rfl, .ty _, ty_tup hZ, ktt, _, rfl, iteF ⟨_, rfl, _, _, rfl, .inr (SqT.of hZ), _, rfl, y, CY, dx, _, _, rfl, hy, Y.cl, Y.nP, rfl, _, _, rfl, .inr (SqT.of hb), rfl, _, rfl, iteFd (by rw [dec_int, nV_len, lz, paired_len pws]; simp) ?_⟩⟩
  refine ⟨_, rfl, _, rfl, ⟨_, SqT.of hZ⟩, fun D hD => lc_it walk_tup (fun i H' => Same H H' ∧ H' D = some (.lst (List.replicate i (.bl true)))) ⟨same_new hD _, upd_same⟩ (fun i H' _ z => SqT.of (z.1 _ _ hZ)) ?_ ?_⟩
  · rintro i x H1 H2 hi ⟨sm, hd⟩ ⟨rfl, hx⟩
    obtain ⟨z, hz, rfl⟩ := List.getElem?_map_some hx
    have hz2 := z3 z (List.mem_of_getElem? hz)
    have hil := lt_len hz
    refine ⟨rfl, tyI ⟨_, rfl, _, rfl, _, rfl, iteT ⟨_, rfl, _, _, rfl, rfl, _, rfl, iteTd (by simp; omega) ⟨_, _, rfl, rfl, ?_⟩⟩⟩⟩
    dsimp only
    rw [show decide ((z : Int) ≤ 3) = true from decide_eq_true (by omega)]
    refine ⟨_, hd, ?_, same_at sm hD, ?_⟩
    · rw [List.length_replicate]
      exact Nat.lt_of_lt_of_le (show i < 100000 by omega) (by decide)
    · rw [upd_same, List.replicate_succ']
  · rintro H1 ⟨sm, hd⟩
    refine ⟨_, List.replicate _ true, rfl, SqL.of (by rw [hd, List.map_replicate]), ?_⟩
    rw [show ∀ m, (List.replicate m true).all id = true from fun m => by simp]
    exact q _ sm
abbrev s_want_sizes : Stmt := top 49
abbrev N_want_sizes : List Str := ["yard", "sizes"]
theorem sc_want_sizes : FnScope N_want_sizes ["yard", "sizes"] (defScope s_want_sizes) := ⟨rfl, rfl, rfl, by decide +kernel, rfl, by decide +kernel, by decide +kernel⟩
theorem ok_want_sizes (F : Fun K "want_sizes" "want_sizes" s_want_sizes f fd) (c_are_sizes : C8.Cal P w K mg base 2 "are_sizes" (spSizes CY C) []) : FnOk P w K mg base CX0 3 f fd ["yard", "sizes"] (spWSz CY C) := by
  refine F.ok sc_want_sizes (fun vs H Q E h => ?_) (fun cdv A outer s0 H vs Q E hr h => ?_)
  · obtain ⟨y, zv, z, ts, ps, rfl, _⟩ := h
    rfl
  obtain ⟨y, zv, z, ts, ps, rfl, ya, yo, sz1, szo, z3, q⟩ := h
  refine ⟨_, (pss_one (ps_if (PW.pt (pw_and (pt_cmp (pc_notN (pv 1))) (pw_and1 (pt_not (pt_val (C8.pe_c c_are_sizes hr (by decide) rfl (pa_cons (pv 0) (pa_cons (pv 1) pa_nil))))))))
        (pss_one ps_never)
        pss_nil)), ?_⟩
  cases z with
  | none =>
    obtain rfl : zv = .non := sz1
    exact ⟨_, rfl, _, rfl, iteFd (by decide) (iteF (q _ (Same.refl _)))⟩
  | some zs =>
    obtain ⟨Z, rfl, hZ⟩ := sz1
    have lp : (srt ps).length = ps.length := (srt_perm ps).length_eq
    have mp := yo.mp
    have szo' : zs.length = (srt ps).length := szo
    exact ⟨_, rfl, _, rfl, iteTd (by simp) ⟨_, rfl, _, rfl, y, Z, zs, ts, ps, rfl, ya, hZ, szo, by omega, z3, fun H1 s1 => ⟨_, rfl, iteF (q _ s1)⟩⟩⟩
end
end FY


set_option Elab.async false
set_option linter.all false
set_option maxRecDepth 100000
set_option maxHeartbeats 4000000
namespace FY
open PySem L2 FYR
def spIsState (CY C : Addr) : Sp := fun vs H Q _ => ∃ (y : Addr) (v : V) (σ : Sta) (ts : List Stn) (ps : List Pipe), vs = [.ref y, v] ∧ YdA CY C H y ts ps ∧ YdOk ts ps ∧ StaA H v σ ∧ StOk ts ps σ ∧ FlOk σ ∧ ∀ H', Same H H' → Q (.bl true) H'
def spWState (CY C : Addr) : Sp := fun vs H Q _ => ∃ (y : Addr) (v : V) (σ : Sta) (ts : List Stn) (ps : List Pipe), vs = [.ref y, v] ∧ YdA CY C H y ts ps ∧ YdOk ts ps ∧ StaA H v σ ∧ StOk ts ps σ ∧ FlOk σ ∧ ∀ H', Same H H' → Q .non H'
theorem eqv_i3 (a b c : Nat) : PyData.eqv (.list [.int (a : Nat), .int (b : Nat), .int (c : Nat)]) (.list [.int (a : Nat), .int (b : Nat), .int (c : Nat)]) = true := by
  simp [PyData.eqv, PyData.eqvAll]
theorem catA_of {K : PySem.W.Frag} {a b : Addr} {xs ys : List V} {H : Hp} {Q : VK} (ha : H a = some (.tup xs)) (hb : H b = some (.tup ys)) (hl : xs.length + ys.length ≤ 100000) (q : ∀ H' p, Same H H' → H' p = some (.tup (xs ++ ys)) → Q (.ref p) H') : rCatA K (.ref a) (.ref b) H Q :=
  ⟨a, b, xs, ys, rfl, rfl, SqT.of ha, SqT.of hb, Nat.le_trans hl (by decide), fun z => q _ _ (Same.refl _) (by rw [z]; exact hb), fun _ z => q _ _ (Same.refl _) (by rw [z, List.append_nil]; exact ha), fun _ _ p hp => q _ _ (same_new hp _) upd_same⟩
section
variable {P : Program} {w : World} {K : PySem.W.Frag} {mg : Str → Option Value} {base : Heap} {aS a1 a2 aL aT : Addr} {f : Addr} {fd : FuncData} {C CD CY : Addr} {mc : Value}
abbrev s_is_state : Stmt := top 50
abbrev N_is_state : List Str := ["yard", "value", "standings", "contents", "rest", "flows", "at", "standing", "station", "text"]
theorem sc_is_state : FnScope N_is_state ["yard", "value"] (defScope s_is_state) := ⟨rfl, rfl, rfl, by decide +kernel, rfl, by decide +kernel, by decide +kernel⟩
theorem ok_is_state (F : Fun K "is_state" "is_state" s_is_state f fd) (T : Txt K mg aS a1 a2) (Y : YdF K CY) (lY : LenC P w K mg base 1 CY (spYL CY C)) (lS : LenC P w K mg base 1 C (spStL C)) (c_is_below : C8.Cal P w K mg base 3 "is_below" spIsBelow []) (c_is_text : C8.Cal P w K mg base 1 "is_text" spIsText []) : FnOk P w K mg base CX0 4 f fd ["yard", "value"] (spIsState CY C) := by
  refine F.ok sc_is_state (fun vs H Q E h => ?_) (fun cdv A outer s0 H vs Q E hr h => ?_)
  · obtain ⟨y, v, σ, ts, ps, rfl, _⟩ := h
    rfl
  obtain ⟨y, v, σ, ts, ps, rfl, ya, yo, sa, so, fo, q⟩ := h
  obtain ⟨va, vp, vq, vr, rfl, h1, h2, h3, h4⟩ := sa
  obtain ⟨dx, a, b, c, d, e, f', hy, ⟨us, ha, pus⟩, ⟨ws, hb, pws⟩, ⟨es, hc, pes⟩⟩ := ya.ob
  have lp : (srt ps).length = ps.length := (srt_perm ps).length_eq
  have mp := yo.mp
  have m2 := yo.m2
  have x3 := yo.ex
  refine ⟨_, (pss_cons (ps_if (PW.pt (pw_or (pt_not (pt_val (pe_callB (kIsi K rfl) rfl T.b_isinstance bt_isinstance (pa_cons (pv 1) (pa_cons (pTy rfl T.b_tuple bt_tuple) pa_nil))))) (pw_or (pt_cmpR op_ne (pe_callB (kLen K rfl) rfl T.b_len bt_len (pa_cons (pv 1) pa_nil)) pe_int (nomark _)) (pw_or1 (pt_not (pt_val (pe_callB (kAll K rfl rfl) rfl T.b_all bt_all (pa_cons (pe_lc (own := [("at", 6)]) rfl sc_is_state.nd (kTup K rfl (pe_tup (pa_cons pe_int (pa_cons pe_int (pa_cons pe_int pa_nil))))) (blkOk_by (N := N_is_state) (sc := defScope s_is_state) (by decide +kernel)) (fun _ _ _ _ _ => (pg_name (i := 6) sc_is_state.nd rfl (Or.inl rfl))) (fun _ _ _ _ _ => pts_nil) (fun _ _ _ _ _ => (pe_callB (kIsi K rfl) rfl T.b_isinstance bt_isinstance (pa_cons (pe_ix (kIxT K rfl) (pv 1) (pv 6) (fun _ _ => rfl)) (pa_cons (pTy rfl T.b_tuple bt_tuple) pa_nil))))) pa_nil))))))))
        (pss_one (ps_ret pe_bl))
        pss_nil)
        (pss_cons (ps_asg (pv 1) (kTupG (n := 4) K rfl rfl (pgs_cons (pg_name (i := 2) sc_is_state.nd rfl (Or.inl rfl)) (pgs_cons (pg_name (i := 3) sc_is_state.nd rfl (Or.inl rfl)) (pgs_cons (pg_name (i := 4) sc_is_state.nd rfl (Or.inl rfl)) (pgs_cons (pg_name (i := 5) sc_is_state.nd rfl (Or.inl rfl)) pgs_nil))))))
        (pss_cons (ps_if (pt_cmpR (kNeD K rfl hr.units) (pe_lst (pa_cons (pe_callB (kLen K rfl) rfl T.b_len bt_len (pa_cons (pv 2) pa_nil)) (pa_cons (pe_callB (kLen K rfl) rfl T.b_len bt_len (pa_cons (pv 3) pa_nil)) (pa_cons (pe_callB (kLen K rfl) rfl T.b_len bt_len (pa_cons (pv 5) pa_nil)) pa_nil)))) (pe_lst (pa_cons (pe_callB (kLenO lY hr (by decide)) rfl T.b_len bt_len (pa_cons (pv 0) pa_nil)) (pa_cons (pe_callB (kLen K rfl) rfl T.b_len bt_len (pa_cons (kFld K rfl (pv 0)) pa_nil)) (pa_cons (pe_callB (kLen K rfl) rfl T.b_len bt_len (pa_cons (kFld K rfl (pv 0)) pa_nil)) pa_nil)))) (nomark _))
        (pss_one (ps_ret pe_bl))
        pss_nil)
        (pss_cons (ps_if (pt_not (pt_val (pe_callB (kAll K rfl rfl) rfl T.b_all bt_all (pa_cons (pe_lc (own := [("standing", 7), ("station", 8)]) rfl sc_is_state.nd (kZipA K rfl rfl T.b_zip (pa_cons (pv 2) (pa_cons (kFld K rfl (pv 0)) pa_nil))) (blkOk_by (N := N_is_state) (sc := defScope s_is_state) (by decide +kernel)) (fun _ _ _ _ _ => (kTupG (n := 2) K rfl rfl (pgs_cons (pg_name (i := 7) sc_is_state.nd rfl (Or.inl rfl)) (pgs_cons (pg_name (i := 8) sc_is_state.nd rfl (Or.inl rfl)) pgs_nil)))) (fun _ _ _ _ _ => pts_nil) (fun _ _ _ _ _ => (C8.pe_c c_is_below hr (by decide) rfl (pa_cons (pv 7) (pa_cons (pe_callB (kLenO lS hr (by decide)) rfl T.b_len bt_len (pa_cons (pv 8) pa_nil)) pa_nil))))) pa_nil))))
        (pss_one (ps_ret pe_bl))
        pss_nil)
        (pss_one (ps_ret (pe_callB (kAll K rfl rfl) rfl T.b_all bt_all (pa_cons (pe_lc (own := [("text", 9)]) rfl sc_is_state.nd (kTup K rfl (pe_op (kCatA K rfl) (pe_op (kCatA K rfl) (pv 3) (pe_tup (pa_cons (pv 4) pa_nil))) (pv 5))) (blkOk_by (N := N_is_state) (sc := defScope s_is_state) (by decide +kernel)) (fun _ _ _ _ _ => (pg_name (i := 9) sc_is_state.nd rfl (Or.inl rfl))) (fun _ _ _ _ _ => pts_nil) (fun _ _ _ _ _ => (C8.pe_c c_is_text hr (by decide) rfl (pa_cons (pv 9) pa_nil)))) pa_nil)))))))), ?_⟩
  refine ⟨_, rfl, _, _, _, _, _, rfl, .ty _, ty_tup h1, ktt, _, rfl, iteF ⟨_, rfl, _, _, rfl, .inr (SqT.of h1), rfl, _, rfl, iteFd (by rw [dec_int]; rfl) ⟨sz rfl, fun pT hpT => ?_⟩⟩⟩
  have k0 := same_new hpT (.tup [.int 0, .int 1, .int 3])
  refine ⟨_, rfl, ⟨_, SqT.of upd_same⟩, fun D hD => lc_it walk_tup (fun i H' => Same (upd H pT (.tup [.int 0, .int 1, .int 3])) H' ∧ H' D = some (.lst (List.replicate i (.bl true)))) ⟨same_new hD _, upd_same⟩ (fun i H' _ z => SqT.of (z.1 _ _ upd_same)) ?_ ?_⟩
  · rintro i x H1 H2 hi ⟨sm, hd⟩ ⟨rfl, hx⟩
    have s1 := k0.trans' sm
    have key : ∃ (j : Nat) (r : Addr) (zs : List V), x = .int (j : Nat) ∧ [V.ref vp, V.ref vq, V.str (tx σ.rs), V.ref vr][j]? = some (.ref r) ∧ H2 r = some (.tup zs) := by
      match i, hx with
      | 0, hx => exact ⟨0, vp, _, (Option.some.inj hx).symm, rfl, s1 _ _ h2⟩
      | 1, hx => exact ⟨1, vq, _, (Option.some.inj hx).symm, rfl, s1 _ _ h3⟩
      | 2, hx => exact ⟨3, vr, _, (Option.some.inj hx).symm, rfl, s1 _ _ h4⟩
    obtain ⟨j, r, zs, rfl, hj, hzs⟩ := key
    refine ⟨rfl, tyI ⟨_, rfl, _, rfl, _, _, _, _, rfl, rfl, SqT.of (s1 _ _ h1), atI_nat hj, _, _, _, _, _, rfl, .ty _, ty_tup hzs, ktt, ?_⟩⟩
    refine ⟨_, hd, ?_, same_at sm hD, ?_⟩
    · rw [List.length_replicate]
      exact Nat.lt_of_lt_of_le hi (by decide)
    · rw [upd_same, List.replicate_succ']
  rintro H1 ⟨sm, hd⟩
  have s1 := k0.trans' sm
  refine ⟨_, List.replicate _ true, rfl, SqL.of (by rw [hd, List.map_replicate]), _, rfl, ?_⟩
  rw [show ∀ m, (List.replicate m true).all id = true from fun m => by simp]
  refine iteF ?_
  refine ⟨_, rfl, _, _, rfl, SqT.of (s1 _ _ h1), rfl, _, _, rfl, _, _, rfl, _, _, rfl, _, _, rfl, rfl, ?_⟩
  refine ⟨_, rfl, _, _, rfl, .inr (SqT.of (s1 _ _ h2)), _, rfl, _, _, rfl, .inr (SqT.of (s1 _ _ h3)), _, rfl, _, _, rfl, .inr (SqT.of (s1 _ _ h4)), sz rfl, fun L1 hL1 => ?_⟩
  have k2 := same_new hL1 (.lst [.int ((nV σ.sd).length : Nat), .int ((tV σ.ct).length : Nat), .int ((tV σ.fl).length : Nat)])
  have s2 := s1.trans' k2
  have ya2 := ya.nl (NL.of s2)
  refine ⟨_, rfl, y, dx, _, rfl, s2 _ _ hy, y, ts, ps, rfl, ya2, ts.length, rfl, by omega, _, rfl, y, CY, dx, _, _, rfl, s2 _ _ hy, Y.cl, Y.nP, rfl, _, _, rfl, .inr (SqT.of (s2 _ _ hb)), _, rfl, y, CY, dx, _, _, rfl, s2 _ _ hy, Y.cl, Y.nX, rfl, _, _, rfl, .inr (SqT.of (s2 _ _ hc)), sz rfl, fun L2 hL2 => ?_⟩
  have k3 := same_new hL2 (.lst [.int (ts.length : Nat), .int (ws.length : Nat), .int (es.length : Nat)])
  have s3 := s2.trans' k3
  have lw : ws.length = (tV σ.ct).length := by rw [tV_len, so.lc]; exact paired_len2 pws
  have le : es.length = (tV σ.fl).length := by rw [tV_len, so.lf]; exact paired_len2 pes
  have lu : ts.length = (nV σ.sd).length := by rw [nV_len, so.ls]
  refine ⟨.list [.int ((nV σ.sd).length : Nat), .int ((tV σ.ct).length : Nat), .int ((tV σ.fl).length : Nat)], .list [.int (ts.length : Nat), .int (ws.length : Nat), .int (es.length : Nat)], .lst (SqL.of (k3 _ _ upd_same)) (.cons (.int _) (.cons (.int _) (.cons (.int _) .nil))), .lst (SqL.of upd_same) (.cons (.int _) (.cons (.int _) (.cons (.int _) .nil))), by rfl, by rfl, _, rfl, iteFd (by rw [lw, le, lu, eqv_i3]; rfl) ?_⟩
  refine ⟨_, rfl, _, rfl, y, CY, dx, _, _, rfl, s3 _ _ hy, Y.cl, Y.nS, rfl, _, _, _, _, rfl, .inr ⟨SqT.of (s3 _ _ h2), SqT.of (s3 _ _ ha), fun D2 hD2 => lc_it (walk_zipT (n := ts.length) (by rw [nV_len, so.ls, paired_len2 pus, Nat.min_self])) (fun i H' => Same H H' ∧ H' D2 = some (.lst (List.replicate i (.bl true)))) ⟨s3.trans' (same_new hD2 _), upd_same⟩ (fun i H' _ z => ⟨SqT.of (z.1 _ _ h2), SqT.of (z.1 _ _ ha)⟩) ?_ ?_⟩⟩
  · rintro i x H4 H5 hi ⟨sm, hd⟩ ⟨T0, i1, i2, rfl, hT0, rfl, hi1, hi2'⟩
    obtain ⟨g, hg, rfl⟩ := List.getElem?_map_some hi1
    have et : ts[i]? = some ts[i] := List.getElem?_eq_getElem hi
    obtain ⟨u, hu, stA⟩ := paired_at pus et
    obtain rfl : u = i2 := Option.some.inj (hu.symm.trans hi2')
    have lg := so.st i _ g et hg
    have k5 := same_new hT0 (.tup [.int (g : Nat), u])
    have s5 := sm.trans' k5
    have tm := (yo.ok _ (List.getElem_mem hi)).m2
    have hD2H : H D2 = none := by cases z : H D2 with | none => rfl | some o => exact absurd (s3 _ _ z) (by rw [hD2]; exact nofun)
    obtain ⟨sA, sdx, sp, sps, rfl, hsa, hsp, psg⟩ := stA
    refine ⟨_, _, rfl, SqT.of upd_same, rfl, _, _, rfl, _, _, rfl, rfl, rfl, tyI ⟨_, rfl, _, rfl, sA, sdx, _, rfl, s5 _ _ hsa, .ref sA, ts[i], rfl, ⟨sA, sdx, sp, sps, rfl, s5 _ _ hsa, s5 _ _ hsp, sgA_all (Tups.of s5) psg⟩, ts[i].stgs.length, rfl, by omega, _, _, rfl, by omega, ?_⟩⟩
    rw [decide_eq_true (show (g : Int) < (ts[i].stgs.length : Nat) by omega)]
    refine ⟨_, k5 _ _ hd, ?_, same_at s5 hD2H, ?_⟩
    · rw [List.length_replicate]
      exact Nat.lt_of_lt_of_le (show i < 100000 by omega) (by decide)
    · rw [upd_same, List.replicate_succ']
  rintro H4 ⟨s4, hd4⟩
  refine ⟨_, List.replicate _ true, rfl, SqL.of (by rw [hd4, List.map_replicate]), _, rfl, ?_⟩
  rw [show ∀ m, (List.replicate m true).all id = true from fun m => by simp]
  refine iteF ?_
  have lc : σ.ct.length = (srt ps).length := so.lc
  have lf : σ.fl.length = (exitsOf ts ps).length := so.lf
  refine ⟨_, rfl, _, rfl, sz rfl, fun p5 hp5 => ?_⟩
  have k5 := same_new hp5 (.tup [.str (tx σ.rs)])
  have s5 := s4.trans' k5
  refine catA_of (s5 _ _ h3) upd_same (by rw [tV_len]; simp; omega) fun H6 p6 s6 hp6 => ?_
  have s6' := s5.trans' s6
  refine ⟨_, rfl, ?_⟩
  refine catA_of hp6 (s6' _ _ h4) (by rw [List.length_append, tV_len, tV_len]; simp; omega) fun H7 p7 s7 hp7 => ?_
  have s7' := s6'.trans' s7
  have eL : tV σ.ct ++ [V.str (tx σ.rs)] ++ tV σ.fl = tV (σ.ct ++ [σ.rs] ++ σ.fl) := by unfold tV; simp
  rw [eL] at hp7
  have lL : (σ.ct ++ [σ.rs] ++ σ.fl).length ≤ 1000 := by simp; omega
  have bL : ∀ b ∈ σ.ct ++ [σ.rs] ++ σ.fl, b.length ≤ 100000 := by
    intro b hb
    simp only [List.mem_append, List.mem_singleton] at hb
    rcases hb with (hb | hb) | hb
    · exact so.cb b hb
    · rw [hb]; exact so.rb
    · exact fo b hb
  generalize σ.ct ++ [σ.rs] ++ σ.fl = bs at *
  refine ⟨_, rfl, ⟨_, SqT.of hp7⟩, fun D8 hD8 => lc_it walk_tup (fun i H' => Same H7 H' ∧ H' D8 = some (.lst (List.replicate i (.bl true)))) ⟨same_new hD8 _, upd_same⟩ (fun i H' _ z => SqT.of (z.1 _ _ hp7)) ?_ ?_⟩
  · rintro i x H8 H9 hi ⟨sm, hd⟩ ⟨rfl, hx⟩
    obtain ⟨b, hb, rfl⟩ := List.getElem?_map_some hx
    have hil := lt_len hb
    refine ⟨rfl, tyI ⟨_, rfl, b, rfl, bL b (List.mem_of_getElem? hb), fun H10 s10 => ?_⟩⟩
    refine ⟨_, s10 _ _ hd, ?_, same_at (sm.trans' s10) hD8, ?_⟩
    · rw [List.length_replicate]
      exact Nat.lt_of_lt_of_le (show i < 100000 by omega) (by decide)
    · rw [upd_same, List.replicate_succ']
  rintro H8 ⟨s8, hd8⟩
  refine ⟨_, List.replicate _ true, rfl, SqL.of (by rw [hd8, List.map_replicate]), ?_⟩
  rw [show ∀ m, (List.replicate m true).all id = true from fun m => by simp]
  exact q _ (s7'.trans' s8)
abbrev s_want_state : Stmt := top 51
abbrev N_want_state : List Str := ["yard", "state"]
theorem sc_want_state : FnScope N_want_state ["yard", "state"] (defScope s_want_state) := ⟨rfl, rfl, rfl, by decide +kernel, rfl, by decide +kernel, by decide +kernel⟩
theorem ok_want_state (F : Fun K "want_state" "want_state" s_want_state f fd) (c_is_state : C8.Cal P w K mg base 4 "is_state" (spIsState CY C) []) : FnOk P w K mg base CX0 5 f fd ["yard", "state"] (spWState CY C) := by
  refine F.ok sc_want_state (fun vs H Q E h => ?_) (fun cdv A outer s0 H vs Q E hr h => ?_)
  · obtain ⟨y, v, σ, ts, ps, rfl, _⟩ := h
    rfl
  obtain ⟨y, v, σ, ts, ps, rfl, ya, yo, sa, so, fo, q⟩ := h
  refine ⟨_, (pss_one (ps_if (pt_not (pt_val (C8.pe_c c_is_state hr (by decide) rfl (pa_cons (pv 0) (pa_cons (pv 1) pa_nil)))))
        (pss_one ps_never)
        pss_nil)), ?_⟩
  exact ⟨_, rfl, _, rfl, y, v, σ, ts, ps, rfl, ya, yo, sa, so, fo, fun H1 s1 => ⟨_, rfl, iteF (q _ s1)⟩⟩
end
end FY


set_option Elab.async false
set_option linter.all false
set_option maxRecDepth 100000
set_option maxHeartbeats 4000000
namespace FY
open PySem L2 FYR
/-- the state behind the beat of s -/
def aftR (ts : List Stn) (ps : List Pipe) (σ : Sta) (s : Nat) : Sta := match rowS ts (srt ps) σ s with
  | some r => aftS ts (srt ps) (exitsOf ts ps) σ s r
  | none => σ
inductive RunS (ts : List Stn) (ps : List Pipe) (z : Option (List Nat)) : Sta → List Nat → Sta → Prop
  | nil {σ : Sta} : StOk ts ps σ → FlOk σ → RunS ts ps z σ [] σ
  | cons {σ σ' : Sta} {s : Nat} {r : List Nat} : StOk ts ps σ → FlOk σ → s < ts.length → canS ts (srt ps) σ s z = true → RunS ts ps z (aftR ts ps σ s) r σ' → RunS ts ps z σ (s :: r) σ'
inductive FinS (ts : List Stn) (ps : List Pipe) (z : Option (List Nat)) : Sta → List Nat → Sta → Prop
  | stop {σ : Sta} : StOk ts ps σ → FlOk σ → ableS ts (srt ps) σ z = [] → FinS ts ps z σ [] σ
  | beat {σ σ' : Sta} {s : Nat} {r ss : List Nat} : StOk ts ps σ → FlOk σ → ableS ts (srt ps) σ z = s :: ss → FinS ts ps z (aftR ts ps σ s) r σ' → FinS ts ps z σ (s :: r) σ'
theorem RunS.ok {ts : List Stn} {ps : List Pipe} {z : Option (List Nat)} {σ σ' : Sta} {r : List Nat} (h : RunS ts ps z σ r σ') : StOk ts ps σ ∧ FlOk σ := by cases h <;> exact ⟨‹_›, ‹_›⟩
theorem RunS.okEnd {ts : List Stn} {ps : List Pipe} {z : Option (List Nat)} {σ σ' : Sta} {r : List Nat} (h : RunS ts ps z σ r σ') : StOk ts ps σ' ∧ FlOk σ' := by
  induction h with
  | nil a b => exact ⟨a, b⟩
  | cons _ _ _ _ _ ih => exact ih
theorem FinS.ok {ts : List Stn} {ps : List Pipe} {z : Option (List Nat)} {σ σ' : Sta} {r : List Nat} (h : FinS ts ps z σ r σ') : StOk ts ps σ ∧ FlOk σ := by cases h <;> exact ⟨‹_›, ‹_›⟩
theorem able_can {ts : List Stn} {qs : List Pipe} {σ : Sta} {z : Option (List Nat)} {s : Nat} {ss : List Nat} (h : ableS ts qs σ z = s :: ss) : s < ts.length ∧ canS ts qs σ s z = true := by
  have m : s ∈ ableS ts qs σ z := by rw [h]; exact List.mem_cons_self ..
  obtain ⟨a, b⟩ := List.mem_filter.mp m
  exact ⟨List.mem_range.mp a, b⟩
theorem can_row {ts : List Stn} {qs : List Pipe} {σ : Sta} {z : Option (List Nat)} {s : Nat} (h : canS ts qs σ s z = true) : ∃ r, rowS ts qs σ s = some r := by
  unfold canS at h
  cases e : rowS ts qs σ s with
  | none => rw [e] at h; cases h
  | some r => exact ⟨r, rfl⟩
/-- what is asked of the yard -/
structure YK (CY C : Addr) (H : Hp) (y : Addr) (ts : List Stn) (ps : List Pipe) : Prop where
  ya : YdA CY C H y ts ps
  yo : YdOk ts ps
  al : AllIn ts (srt ps)
theorem YK.keep {CY C : Addr} {H H' : Hp} {y : Addr} {ts : List Stn} {ps : List Pipe} (h : YK CY C H y ts ps) (k : NL H H') : YK CY C H' y ts ps := ⟨h.ya.nl k, h.yo, h.al⟩
/-- .. of the sizes -/
structure SK (H : Hp) (zv : V) (ps : List Pipe) (z : Option (List Nat)) : Prop where
  a : SzA H zv z
  o : SzOk ps z
  i : SzIn z
theorem SK.keep {H H' : Hp} {zv : V} {ps : List Pipe} {z : Option (List Nat)} (h : SK H zv ps z) (k : Tups H H') : SK H' zv ps z := ⟨h.a.keep k, h.o, h.i⟩
theorem SK.none {H : Hp} {ps : List Pipe} : SK H .non ps none := ⟨rfl, trivial, trivial⟩
def spBeginOf (CY C : Addr) : Sp := fun vs H Q _ => ∃ (y : Addr) (x : List Bool) (ts : List Stn) (ps : List Pipe) (bg : Bg), vs = [.ref y, .str (tx x)] ∧ YK CY C H y ts ps ∧ YdBg CY H y bg ∧ x.length ≤ 1000 ∧ ∀ H' v, Same H H' → StaA H' v (begS bg (exitsOf ts ps) x) → Q v H'
def spCan (CY C : Addr) : Sp := fun vs H Q _ => ∃ (y : Addr) (v zv : V) (σ : Sta) (z : Option (List Nat)) (ts : List Stn) (ps : List Pipe), vs = [.ref y, v, zv] ∧ YK CY C H y ts ps ∧ StaA H v σ ∧ StOk ts ps σ ∧ FlOk σ ∧ SK H zv ps z ∧ ∀ H' p, Same H H' → H p = none → H' p = some (.lst (nV (ableS ts (srt ps) σ z))) → Q (.ref p) H'
def spDone (CY C : Addr) : Sp := fun vs H Q _ => ∃ (y : Addr) (v zv : V) (σ : Sta) (s : Nat) (z : Option (List Nat)) (ts : List Stn) (ps : List Pipe), vs = [.ref y, v, .int (s : Nat), zv] ∧ YK CY C H y ts ps ∧ StaA H v σ ∧ StOk ts ps σ ∧ FlOk σ ∧ SK H zv ps z ∧ s < ts.length ∧ canS ts (srt ps) σ s z = true ∧ ∀ H' u, Same H H' → StaA H' u (aftR ts ps σ s) → Q u H'
/-- a run: a list or a tuple -/
def RunAt (H : Hp) (L : Addr) (run : List Nat) : Prop := H L = some (.lst (nV run)) ∨ H L = some (.tup (nV run))
theorem RunAt.same {H H' : Hp} (s : Same H H') {L : Addr} {run : List Nat} (h : RunAt H L run) : RunAt H' L run := h.elim (fun e => .inl (s _ _ e)) (fun e => .inr (s _ _ e))
def spFaultO (o : List V → HO) (CY C : Addr) : Sp := fun vs H Q _ => ∃ (y L : Addr) (zv : V) (x : List Bool) (run : List Nat) (σ' : Sta) (z : Option (List Nat)) (ts : List Stn) (ps : List Pipe) (bg : Bg), vs = [.ref y, .str (tx x), .ref L, zv] ∧ YK CY C H y ts ps ∧ YdBg CY H y bg ∧ H L = some (o (nV run)) ∧ SK H zv ps z ∧ RunS ts ps z (begS bg (exitsOf ts ps) x) run σ' ∧ ∀ H' p v, Same H H' → H' p = some (.tup [v, .non]) → StaA H' v σ' → Q (.ref p) H'
def spIsRun (CY C : Addr) : Sp := fun vs H Q _ => ∃ (y L : Addr) (zv : V) (x : List Bool) (run : List Nat) (σ' : Sta) (z : Option (List Nat)) (ts : List Stn) (ps : List Pipe) (bg : Bg), vs = [.ref y, .str (tx x), .ref L, zv] ∧ YK CY C H y ts ps ∧ YdBg CY H y bg ∧ x.length ≤ 1000 ∧ RunAt H L run ∧ SK H zv ps z ∧ RunS ts ps z (begS bg (exitsOf ts ps) x) run σ' ∧ ∀ H', Same H H' → Q (.bl true) H'
def spFault (CY C : Addr) : Sp := fun vs H Q _ => ∃ (y L : Addr) (zv : V) (x : List Bool) (run : List Nat) (σ' : Sta) (z : Option (List Nat)) (ts : List Stn) (ps : List Pipe) (bg : Bg), vs = [.ref y, .str (tx x), .ref L, zv] ∧ YK CY C H y ts ps ∧ YdBg CY H y bg ∧ RunAt H L run ∧ SK H zv ps z ∧ RunS ts ps z (begS bg (exitsOf ts ps) x) run σ' ∧ ∀ H' p v, Same H H' → H' p = some (.tup [v, .non]) → StaA H' v σ' → Q (.ref p) H'
def spBehind (CY C : Addr) : Sp := fun vs H Q _ => ∃ (y L : Addr) (zv : V) (x : List Bool) (run : List Nat) (σ' : Sta) (z : Option (List Nat)) (ts : List Stn) (ps : List Pipe) (bg : Bg), vs = [.ref y, .str (tx x), .ref L, zv] ∧ YK CY C H y ts ps ∧ YdBg CY H y bg ∧ x.length ≤ 1000 ∧ RunAt H L run ∧ SK H zv ps z ∧ RunS ts ps z (begS bg (exitsOf ts ps) x) run σ' ∧ ∀ H' v, Same H H' → StaA H' v σ' → Q v H'
def spFull (CY C : Addr) : Sp := fun vs H Q _ => ∃ (y L : Addr) (zv : V) (x : List Bool) (run : List Nat) (σ' : Sta) (z : Option (List Nat)) (ts : List Stn) (ps : List Pipe) (bg : Bg), vs = [.ref y, .str (tx x), .ref L, zv] ∧ YK CY C H y ts ps ∧ YdBg CY H y bg ∧ x.length ≤ 1000 ∧ RunAt H L run ∧ SK H zv ps z ∧ RunS ts ps z (begS bg (exitsOf ts ps) x) run σ' ∧ ∀ H', Same H H' → Q (.bl (decide (ableS ts (srt ps) σ' z = []))) H'
def spFin (CY C : Addr) : Sp := fun vs H Q _ => ∃ (y : Addr) (v zv : V) (σ σ' : Sta) (m : Nat) (run : List Nat) (z : Option (List Nat)) (ts : List Stn) (ps : List Pipe), vs = [.ref y, v, zv, .int (m : Nat)] ∧ YK CY C H y ts ps ∧ StaA H v σ ∧ SK H zv ps z ∧ FinS ts ps z σ run σ' ∧ run.length ≤ m ∧ m ≤ 100000 ∧ ∀ H' p u L, Same H H' → H L = none → H' p = some (.tup [u, .ref L]) → StaA H' u σ' → H' L = some (.lst (nV run)) → Q (.ref p) H'
def spRunF (CY C : Addr) : Sp := fun vs H Q _ => ∃ (y : Addr) (zv : V) (x : List Bool) (σ' : Sta) (run : List Nat) (z : Option (List Nat)) (ts : List Stn) (ps : List Pipe) (bg : Bg), vs = [.ref y, .str (tx x), zv] ∧ YK CY C H y ts ps ∧ YdBg CY H y bg ∧ x.length ≤ 1000 ∧ SK H zv ps z ∧ FinS ts ps z (begS bg (exitsOf ts ps) x) run σ' ∧ run.length ≤ 20000 ∧ ∀ H' L, Same H H' → H L = none → H' L = some (.lst (nV run)) → Q (.ref L) H'
def spEnd (CY C : Addr) : Sp := fun vs H Q _ => ∃ (y : Addr) (zv : V) (x : List Bool) (σ' : Sta) (run : List Nat) (z : Option (List Nat)) (ts : List Stn) (ps : List Pipe) (bg : Bg), vs = [.ref y, .str (tx x), zv] ∧ YK CY C H y ts ps ∧ YdBg CY H y bg ∧ x.length ≤ 1000 ∧ SK H zv ps z ∧ FinS ts ps z (begS bg (exitsOf ts ps) x) run σ' ∧ run.length ≤ 20000 ∧ ∀ H' u, Same H H' → StaA H' u σ' → Q u H'
def spFlows (CY C : Addr) : Sp := fun vs H Q _ => ∃ (y : Addr) (x : List Bool) (σ' : Sta) (run : List Nat) (ts : List Stn) (ps : List Pipe) (bg : Bg), vs = [.ref y, .str (tx x)] ∧ YK CY C H y ts ps ∧ YdBg CY H y bg ∧ x.length ≤ 1000 ∧ FinS ts ps none (begS bg (exitsOf ts ps) x) run σ' ∧ run.length ≤ 20000 ∧ ∀ H' L, Same H H' → H L = none → H' L = some (.lst (tV σ'.fl)) → Q (.ref L) H'
theorem dpints {K : PySem.W.Frag} {H : Hp} : ∀ ns : List Nat, DpAll K H (nV ns) (ns.map fun (n : Nat) => PyData.int (n : Nat))
  | [] => .nil
  | n :: r => .cons (.int _) (dpints r)
theorem shp_ints {ns : List Nat} (h : ∀ n ∈ ns, n ≤ 100) (hl : ns.length ≤ 100000) : SeqAt.shaped (.list (ns.map fun (n : Nat) => PyData.int (n : Nat))) = true :=
  (nice_lst (n := 0) (w := 7) (m := 100000) (by intro d hd; obtain ⟨n, hn, rfl⟩ := List.mem_map.mp hd; exact nice_int (h n hn)) (by rw [List.length_map]; exact hl)).shp (by decide)
theorem able_small {ts : List Stn} {qs : List Pipe} {σ : Sta} {z : Option (List Nat)} (h : ts.length ≤ 12) : (∀ n ∈ ableS ts qs σ z, n ≤ 100) ∧ (ableS ts qs σ z).length ≤ 100 := by
  refine ⟨fun n hn => ?_, ?_⟩
  · have := List.mem_range.mp (List.mem_filter.mp hn).1
    omega
  · have : (ableS ts qs σ z).length ≤ (List.range ts.length).length := List.length_filter_le _ _
    rw [List.length_range] at this
    omega
theorem eqv_nil (ns : List Nat) : PyData.eqv (.list (ns.map fun (n : Nat) => PyData.int (n : Nat))) (.list []) = decide (ns = []) := by
  cases ns <;> rfl
section
variable {P : Program} {w : World} {K : PySem.W.Frag} {mg : Str → Option Value} {base : Heap} {aS a1 a2 aL aT : Addr} {f : Addr} {fd : FuncData} {C CD CY : Addr} {mc : Value}
abbrev s_can_be_done : Stmt := top 59
abbrev N_can_be_done : List Str := ["yard", "state", "sizes"]
theorem sc_can_be_done : FnScope N_can_be_done ["yard", "state", "sizes"] (defScope s_can_be_done) := ⟨rfl, rfl, rfl, by decide +kernel, rfl, by decide +kernel, by decide +kernel⟩
theorem ok_can_be_done {dV : List V} (F : FunD K "can_be_done" "can_be_done" (defArgs s_can_be_done) (defBody s_can_be_done) (defScope s_can_be_done) dV [] f fd) (c_want_state : C8.Cal P w K mg base 5 "want_state" (spWState CY C) []) (c_want_sizes : C8.Cal P w K mg base 3 "want_sizes" (spWSz CY C) []) (c_possible : C8.Cal P w K mg base 4 "possible" (spPossible CY C) []) : FnOk P w K mg base CX0 6 f fd ["yard", "state", "sizes"] (spCan CY C) := by
  refine okD0 F sc_can_be_done (fun vs H Q E h => ?_) (fun cdv A outer s0 H vs Q E hr h => ?_)
  · obtain ⟨y, v, zv, σ, z, ts, ps, rfl, _⟩ := h
    rfl
  obtain ⟨y, v, zv, σ, z, ts, ps, rfl, yk, sa, so, fo, sk, q⟩ := h
  refine ⟨_, (pss_cons (ps_expr (C8.pe_c c_want_state hr (by decide) rfl (pa_cons (pv 0) (pa_cons (pv 1) pa_nil))))
        (pss_cons (ps_expr (C8.pe_c c_want_sizes hr (by decide) rfl (pa_cons (pv 0) (pa_cons (pv 2) pa_nil))))
        (pss_one (ps_ret (C8.pe_c c_possible hr (by decide) rfl (pa_cons (pv 0) (pa_cons (pv 1) (pa_cons (pv 2) pa_nil)))))))), ?_⟩
  refine ⟨_, rfl, _, rfl, y, v, σ, ts, ps, rfl, yk.ya, yk.yo, sa, so, fo, fun H1 s1 => ⟨_, rfl, _, rfl, y, zv, z, ts, ps, rfl, yk.ya.nl (NL.of s1), yk.yo, sk.a.keep (Tups.of s1), sk.o, sk.i, fun H2 s2 => ?_⟩⟩
  have s12 := s1.trans' s2
  exact ⟨_, rfl, _, rfl, _, rfl, y, v, zv, σ, z, ts, ps, rfl, yk.ya.nl (NL.of s12), sa.keep (Tups.of s12), so, yk.yo.ok, yk.yo.m2, yk.al, sk.a.keep (Tups.of s12), sk.o, fun H3 p s3 hp h3 => q _ _ (s12.trans' s3) (none_of s12 hp) h3⟩
end
end FY


set_option Elab.async false
set_option linter.all false
set_option maxRecDepth 100000
set_option maxHeartbeats 4000000
namespace FY
open PySem L2 FYR
section
variable {P : Program} {w : World} {K : PySem.W.Frag} {mg : Str → Option Value} {base : Heap} {aS a1 a2 aL aT : Addr} {f : Addr} {fd : FuncData} {C CD CY : Addr} {mc : Value}
theorem ty_tupT {K : PySem.W.Frag} {H : Hp} {a : Addr} {xs : List V} (h : H a = some (.tup xs)) : TyX K H (.ref a) (.type "tuple") := ty_tup h
def spIsListT : Sp := fun vs H Q _ => ∃ L xs, vs = [.ref L] ∧ H L = some (.tup xs) ∧ ∀ H', Same H H' → Q (.bl true) H'
theorem ok_is_listT (F : Fun K "is_list" "is_list" s_is_list f fd) (T : Txt K mg aS a1 a2) : FnOk P w K mg base CX0 1 f fd ["value"] spIsListT := by
  refine F.ok sc_is_list (fun vs H Q E h => ?_) (fun cdv A outer s H vs Q E hr h => ?_)
  · obtain ⟨L, xs, rfl, _⟩ := h
    rfl
  obtain ⟨L, xs, rfl, hL, q⟩ := h
  refine ⟨_, (pss_one (ps_ret (pe_callB (kIsiT K rfl) rfl T.b_isinstance bt_isinstance (pa_cons (pv 0) (pa_cons (pe_tup (pa_cons (pTy rfl T.b_list bt_list) (pa_cons (pTy rfl T.b_tuple bt_tuple) pa_nil))) pa_nil))))), ?_⟩
  refine ⟨_, rfl, sz rfl, fun p hp => ⟨_, p, _, _, _, true, rfl, upd_same, .cons (.ty _) (.cons (.ty _) .nil), ty_tup (same_new hp _ _ _ hL), ?_, q _ (same_new hp _)⟩⟩
  exact kitAny_cons (b := false) (kit_ty (by decide +kernel)) (fun _ => kitAny_cons (b := true) (kit_ty (by decide +kernel)) (fun z => nomatch z) (fun _ => rfl)) (fun z => nomatch z)
theorem fnOk_cases {P : Program} {w : World} {K : PySem.W.Frag} {mg : Str → Option Value} {base : Heap} {CX : CXT} {k : Nat} {f : Addr} {fd : FuncData} {ps : List Str} {sp sp1 sp2 : Sp} (F1 : FnOk P w K mg base CX k f fd ps sp1) (F2 : FnOk P w K mg base CX k f fd ps sp2) (h : ∀ vs H Q E, sp vs H Q E → sp1 vs H Q E ∨ sp2 vs H Q E) :
    FnOk P w K mg base CX k f fd ps sp :=
  ⟨fun vs H Q E z => (h _ _ _ _ z).elim (F1.len vs H Q E) (F2.len vs H Q E), fun A outer s H args us vs Q E hr e0 hb r z => (h _ _ _ _ z).elim (F1.run A outer s H args us vs Q E hr e0 hb r) (F2.run A outer s H args us vs Q E hr e0 hb r)⟩
abbrev s_fault_of : Stmt := top 60
abbrev N_fault_of : List Str := ["yard", "stream", "value", "sizes", "state", "position", "station"]
theorem sc_fault_of : FnScope N_fault_of ["yard", "stream", "value", "sizes"] (defScope s_fault_of) := ⟨rfl, rfl, rfl, by decide +kernel, rfl, by decide +kernel, by decide +kernel⟩
theorem ok_fault_ofL (F : Fun K "fault_of" "fault_of" s_fault_of f fd) (T : Txt K mg aS a1 a2) (lY : LenC P w K mg base 1 CY (spYL CY C)) (c_is_list : C8.Cal P w K mg base 1 "is_list" spIsList []) (c_begun : C8.Cal P w K mg base 1 "begun" (spBegun CY C) []) (c_is_below : C8.Cal P w K mg base 3 "is_below" spIsBelow []) (c_is_possible : C8.Cal P w K mg base 3 "is_possible" (spPoss CY C) []) (c_after_beat : C8.Cal P w K mg base 3 "after_beat" (spAfter CY C) []) : FnOk P w K mg base CX0 4 f fd ["yard", "stream", "value", "sizes"] (spFaultO .lst CY C) := by
  refine F.ok sc_fault_of (fun vs H Q E h => ?_) (fun cdv A outer s0 H vs Q E hr h => ?_)
  · obtain ⟨y, L, zv, x, run, σ', z, ts, ps, bg, rfl, _⟩ := h
    rfl
  obtain ⟨y, L, zv, x, run, σ', z, ts, ps, bg, rfl, yk, yb, hL, sk, rs, q⟩ := h
  have m2 := yk.yo.m2
  refine ⟨_, (pss_cons (ps_if (pt_not (pt_val (C8.pe_c c_is_list hr (by decide) rfl (pa_cons (pv 2) pa_nil))))
        (pss_one (ps_ret (pe_tup (pa_cons pe_non (pa_cons (pe_un un_neg pe_int) pa_nil)))))
        pss_nil)
        (pss_cons (ps_set (i := 4) sc_fault_of.nd rfl (Or.inl rfl) (C8.pe_c c_begun hr (by decide) rfl (pa_cons (pv 0) (pa_cons (pv 1) pa_nil))))
        (pss_cons (ps_for PassesOwn.never rfl (kEnum K rfl rfl T.b_enumerate (pa_cons (pv 2) pa_nil)) (kTupG (n := 2) K rfl rfl (pgs_cons (pg_name (i := 5) sc_fault_of.nd rfl (Or.inl rfl)) (pgs_cons (pg_name (i := 6) sc_fault_of.nd rfl (Or.inl rfl)) pgs_nil)))
        (pss_cons (ps_if (PW.pt (pw_or (pt_not (pt_val (C8.pe_c c_is_below hr (by decide) rfl (pa_cons (pv 6) (pa_cons (pe_callB (kLenO lY hr (by decide)) rfl T.b_len bt_len (pa_cons (pv 0) pa_nil)) pa_nil))))) (pw_or1 (pt_not (pt_val (C8.pe_c c_is_possible hr (by decide) rfl (pa_cons (pv 0) (pa_cons (pv 4) (pa_cons (pv 6) (pa_cons (pv 3) pa_nil))))))))))
        (pss_one (ps_ret (pe_tup (pa_cons pe_non (pa_cons (pv 5) pa_nil)))))
        pss_nil)
        (pss_one (ps_set (i := 4) sc_fault_of.nd rfl (Or.inl rfl) (C8.pe_c c_after_beat hr (by decide) rfl (pa_cons (pv 0) (pa_cons (pv 4) (pa_cons (pv 6) pa_nil))))))))
        (pss_one (ps_ret (pe_tup (pa_cons (pv 4) (pa_cons pe_non pa_nil)))))))), ?_⟩
  refine ⟨_, rfl, L, _, rfl, hL, fun H1 s1 => ⟨_, rfl, iteF ⟨_, rfl, _, rfl, y, x, ts, ps, bg, rfl, yk.ya.nl (NL.of s1), yb.nl (NL.of s1), yk.yo.ex, fun H2 v s2 sv => ?_⟩⟩⟩
  have s12 := s1.trans' s2
  refine ⟨_, rfl, _, _, rfl, SqL.of (s12 _ _ hL), for_it walk_enum (fun i τ H' => ∃ (a b : Option V) (u : V) (σi : Sta), τ = [some (.ref y), some (.str (tx x)), some (.ref L), some zv, some u, a, b] ∧ Same H H' ∧ StaA H' u σi ∧ RunS ts ps z σi (run.drop i) σ') ⟨_, _, v, _, rfl, s12, sv, rs⟩ (fun i τ H' _ z => by obtain ⟨_, _, _, _, _, sm, _⟩ := z; exact SqL.of (sm _ _ hL)) ?_ ?_⟩
  · rintro i xx τ G1 G2 hi ⟨a, b, u, σi, rfl, sm, su, ru⟩ ⟨T0, i1, i2, rfl, hT0, rfl, hi1, hi2'⟩
    obtain rfl : V.int (i : Nat) = i1 := Option.some.inj hi1
    obtain ⟨s, hs, rfl⟩ := List.getElem?_map_some hi2'
    have eD : run.drop i = s :: run.drop (i + 1) := by
      obtain ⟨h, e⟩ := List.getElem?_eq_some_iff.mp hs
      rw [List.drop_eq_getElem_cons h, e]
    rw [eD] at ru
    cases ru with
    | cons so fo ls cs ru =>
    obtain ⟨r, er⟩ := can_row cs
    have et : ts[s]? = some ts[s] := List.getElem?_eq_getElem ls
    have k0 := same_new hT0 (.tup [.int (i : Nat), .int (s : Nat)])
    have s0' := sm.trans' k0
    have ya' := yk.ya.nl (NL.of s0')
    obtain ⟨dx, b1, b2, b3, b4, b5, b6, kv, kw, hy, _⟩ := ya'.dc
    refine ⟨_, _, rfl, SqT.of upd_same, rfl, _, _, rfl, _, _, rfl, rfl, _, rfl, _, rfl, y, dx, _, rfl, hy, y, ts, ps, rfl, ya', ts.length, rfl, by omega, _, _, rfl, by omega, _, rfl, iteFd (by simp; omega) ?_⟩
    refine ⟨_, rfl, _, rfl, _, rfl, _, rfl, y, u, zv, σi, s, ts[s], z, ts, ps, rfl, ya', su.keep (Tups.of k0), so, et, yk.yo.ok _ (List.getElem_mem ls), yk.al, sk.a.keep (Tups.of s0'), sk.o, fun H3 s3 => ⟨_, rfl, ?_⟩⟩
    rw [cs]
    have s13 := s0'.trans' s3
    refine iteF ⟨_, rfl, _, rfl, _, rfl, y, u, σi, s, ts[s], r, ts, ps, rfl, yk.ya.nl (NL.of s13), su.keep (Tups.of (k0.trans' s3)), so, fo, yk.yo, yk.al, et, er, fun H4 u' s4 su' => ⟨_, _, u', _, rfl, s13.trans' s4, su', ?_⟩⟩
    unfold aftR at ru
    rw [er] at ru
    exact ru
  rintro τ H3 ⟨a, b, u, σi, rfl, sm, su, ru⟩
  rw [nV_len, List.drop_length] at ru
  cases ru with
  | nil _ _ =>
  exact ⟨_, rfl, sz rfl, fun p hp => q _ _ u (sm.trans' (same_new hp _)) upd_same (su.keep (Tups.of (same_new hp _)))⟩
theorem ok_fault_ofT (F : Fun K "fault_of" "fault_of" s_fault_of f fd) (T : Txt K mg aS a1 a2) (lY : LenC P w K mg base 1 CY (spYL CY C)) (c_is_list : C8.Cal P w K mg base 1 "is_list" spIsListT []) (c_begun : C8.Cal P w K mg base 1 "begun" (spBegun CY C) []) (c_is_below : C8.Cal P w K mg base 3 "is_below" spIsBelow []) (c_is_possible : C8.Cal P w K mg base 3 "is_possible" (spPoss CY C) []) (c_after_beat : C8.Cal P w K mg base 3 "after_beat" (spAfter CY C) []) : FnOk P w K mg base CX0 4 f fd ["yard", "stream", "value", "sizes"] (spFaultO .tup CY C) := by
  refine F.ok sc_fault_of (fun vs H Q E h => ?_) (fun cdv A outer s0 H vs Q E hr h => ?_)
  · obtain ⟨y, L, zv, x, run, σ', z, ts, ps, bg, rfl, _⟩ := h
    rfl
  obtain ⟨y, L, zv, x, run, σ', z, ts, ps, bg, rfl, yk, yb, hL, sk, rs, q⟩ := h
  have m2 := yk.yo.m2
  refine ⟨_, (pss_cons (ps_if (pt_not (pt_val (C8.pe_c c_is_list hr (by decide) rfl (pa_cons (pv 2) pa_nil))))
        (pss_one (ps_ret (pe_tup (pa_cons pe_non (pa_cons (pe_un un_neg pe_int) pa_nil)))))
        pss_nil)
        (pss_cons (ps_set (i := 4) sc_fault_of.nd rfl (Or.inl rfl) (C8.pe_c c_begun hr (by decide) rfl (pa_cons (pv 0) (pa_cons (pv 1) pa_nil))))
        (pss_cons (ps_for PassesOwn.never rfl (pi_enumT K rfl rfl T.b_enumerate (pa_cons (pv 2) pa_nil)) (kTupG (n := 2) K rfl rfl (pgs_cons (pg_name (i := 5) sc_fault_of.nd rfl (Or.inl rfl)) (pgs_cons (pg_name (i := 6) sc_fault_of.nd rfl (Or.inl rfl)) pgs_nil)))
        (pss_cons (ps_if (PW.pt (pw_or (pt_not (pt_val (C8.pe_c c_is_below hr (by decide) rfl (pa_cons (pv 6) (pa_cons (pe_callB (kLenO lY hr (by decide)) rfl T.b_len bt_len (pa_cons (pv 0) pa_nil)) pa_nil))))) (pw_or1 (pt_not (pt_val (C8.pe_c c_is_possible hr (by decide) rfl (pa_cons (pv 0) (pa_cons (pv 4) (pa_cons (pv 6) (pa_cons (pv 3) pa_nil))))))))))
        (pss_one (ps_ret (pe_tup (pa_cons pe_non (pa_cons (pv 5) pa_nil)))))
        pss_nil)
        (pss_one (ps_set (i := 4) sc_fault_of.nd rfl (Or.inl rfl) (C8.pe_c c_after_beat hr (by decide) rfl (pa_cons (pv 0) (pa_cons (pv 4) (pa_cons (pv 6) pa_nil))))))))
        (pss_one (ps_ret (pe_tup (pa_cons (pv 4) (pa_cons pe_non pa_nil)))))))), ?_⟩
  refine ⟨_, rfl, L, _, rfl, hL, fun H1 s1 => ⟨_, rfl, iteF ⟨_, rfl, _, rfl, y, x, ts, ps, bg, rfl, yk.ya.nl (NL.of s1), yb.nl (NL.of s1), yk.yo.ex, fun H2 v s2 sv => ?_⟩⟩⟩
  have s12 := s1.trans' s2
  refine ⟨_, rfl, _, _, rfl, SqT.of (s12 _ _ hL), for_it walk_enumT (fun i τ H' => ∃ (a b : Option V) (u : V) (σi : Sta), τ = [some (.ref y), some (.str (tx x)), some (.ref L), some zv, some u, a, b] ∧ Same H H' ∧ StaA H' u σi ∧ RunS ts ps z σi (run.drop i) σ') ⟨_, _, v, _, rfl, s12, sv, rs⟩ (fun i τ H' _ z => by obtain ⟨_, _, _, _, _, sm, _⟩ := z; exact SqT.of (sm _ _ hL)) ?_ ?_⟩
  · rintro i xx τ G1 G2 hi ⟨a, b, u, σi, rfl, sm, su, ru⟩ ⟨T0, i1, i2, rfl, hT0, rfl, hi1, hi2'⟩
    obtain rfl : V.int (i : Nat) = i1 := Option.some.inj hi1
    obtain ⟨s, hs, rfl⟩ := List.getElem?_map_some hi2'
    have eD : run.drop i = s :: run.drop (i + 1) := by
      obtain ⟨h, e⟩ := List.getElem?_eq_some_iff.mp hs
      rw [List.drop_eq_getElem_cons h, e]
    rw [eD] at ru
    cases ru with
    | cons so fo ls cs ru =>
    obtain ⟨r, er⟩ := can_row cs
    have et : ts[s]? = some ts[s] := List.getElem?_eq_getElem ls
    have k0 := same_new hT0 (.tup [.int (i : Nat), .int (s : Nat)])
    have s0' := sm.trans' k0
    have ya' := yk.ya.nl (NL.of s0')
    obtain ⟨dx, b1, b2, b3, b4, b5, b6, kv, kw, hy, _⟩ := ya'.dc
    refine ⟨_, _, rfl, SqT.of upd_same, rfl, _, _, rfl, _, _, rfl, rfl, _, rfl, _, rfl, y, dx, _, rfl, hy, y, ts, ps, rfl, ya', ts.length, rfl, by omega, _, _, rfl, by omega, _, rfl, iteFd (by simp; omega) ?_⟩
    refine ⟨_, rfl, _, rfl, _, rfl, _, rfl, y, u, zv, σi, s, ts[s], z, ts, ps, rfl, ya', su.keep (Tups.of k0), so, et, yk.yo.ok _ (List.getElem_mem ls), yk.al, sk.a.keep (Tups.of s0'), sk.o, fun H3 s3 => ⟨_, rfl, ?_⟩⟩
    rw [cs]
    have s13 := s0'.trans' s3
    refine iteF ⟨_, rfl, _, rfl, _, rfl, y, u, σi, s, ts[s], r, ts, ps, rfl, yk.ya.nl (NL.of s13), su.keep (Tups.of (k0.trans' s3)), so, fo, yk.yo, yk.al, et, er, fun H4 u' s4 su' => ⟨_, _, u', _, rfl, s13.trans' s4, su', ?_⟩⟩
    unfold aftR at ru
    rw [er] at ru
    exact ru
  rintro τ H3 ⟨a, b, u, σi, rfl, sm, su, ru⟩
  rw [nV_len, List.drop_length] at ru
  cases ru with
  | nil _ _ =>
  exact ⟨_, rfl, sz rfl, fun p hp => q _ _ u (sm.trans' (same_new hp _)) upd_same (su.keep (Tups.of (same_new hp _)))⟩
theorem ok_fault_of (F : Fun K "fault_of" "fault_of" s_fault_of f fd) (T : Txt K mg aS a1 a2) (lY : LenC P w K mg base 1 CY (spYL CY C)) (c_is_list : C8.Cal P w K mg base 1 "is_list" spIsList []) (c_is_listT : C8.Cal P w K mg base 1 "is_list" spIsListT []) (c_begun : C8.Cal P w K mg base 1 "begun" (spBegun CY C) []) (c_is_below : C8.Cal P w K mg base 3 "is_below" spIsBelow []) (c_is_possible : C8.Cal P w K mg base 3 "is_possible" (spPoss CY C) []) (c_after_beat : C8.Cal P w K mg base 3 "after_beat" (spAfter CY C) []) : FnOk P w K mg base CX0 4 f fd ["yard", "stream", "value", "sizes"] (spFault CY C) :=
  fnOk_cases (ok_fault_ofL F T lY c_is_list c_begun c_is_below c_is_possible c_after_beat) (ok_fault_ofT F T lY c_is_listT c_begun c_is_below c_is_possible c_after_beat) fun vs H Q E h => by
    obtain ⟨y, L, zv, x, run, σ', z, ts, ps, bg, e, yk, yb, hL, r⟩ := h
    exact hL.elim (fun hL => .inl ⟨y, L, zv, x, run, σ', z, ts, ps, bg, e, yk, yb, hL, r⟩) (fun hL => .inr ⟨y, L, zv, x, run, σ', z, ts, ps, bg, e, yk, yb, hL, r⟩)
abbrev s_behind_run : Stmt := top 61
abbrev N_behind_run : List Str := ["yard", "stream", "run", "sizes", "state", "fault"]
theorem sc_behind_run : FnScope N_behind_run ["yard", "stream", "run", "sizes"] (defScope s_behind_run) := ⟨rfl, rfl, rfl, by decide +kernel, rfl, by decide +kernel, by decide +kernel⟩
theorem ok_behind_run (F : Fun K "behind_run" "behind_run" s_behind_run f fd) (c_fault_of : C8.Cal P w K mg base 4 "fault_of" (spFault CY C) []) : FnOk P w K mg base CX0 5 f fd ["yard", "stream", "run", "sizes"] (spBehind CY C) := by
  refine F.ok sc_behind_run (fun vs H Q E h => ?_) (fun cdv A outer s0 H vs Q E hr h => ?_)
  · obtain ⟨y, L, zv, x, run, σ', z, ts, ps, bg, rfl, _⟩ := h
    rfl
  obtain ⟨y, L, zv, x, run, σ', z, ts, ps, bg, rfl, yk, yb, hx, hL, sk, rs, q⟩ := h
  refine ⟨_, (pss_cons (ps_asg (C8.pe_c c_fault_of hr (by decide) rfl (pa_cons (pv 0) (pa_cons (pv 1) (pa_cons (pv 2) (pa_cons (pv 3) pa_nil))))) (kTupG (n := 2) K rfl rfl (pgs_cons (pg_name (i := 4) sc_behind_run.nd rfl (Or.inl rfl)) (pgs_cons (pg_name (i := 5) sc_behind_run.nd rfl (Or.inl rfl)) pgs_nil))))
        (pss_cons (ps_if (pt_cmp (pc_isN (pv 4)))
        (pss_one ps_never)
        pss_nil)
        (pss_one (ps_ret (pv 4))))), ?_⟩
  refine ⟨_, rfl, _, rfl, _, rfl, _, rfl, y, L, zv, x, run, σ', z, ts, ps, bg, rfl, yk, yb, hL, sk, rs, fun H1 p v s1 hp sv => ?_⟩
  refine ⟨_, _, rfl, SqT.of hp, rfl, _, _, rfl, _, _, rfl, rfl, ?_⟩
  have sv0 := sv
  obtain ⟨va, _, _, _, rfl, _⟩ := sv
  exact ⟨_, rfl, _, rfl, iteFd (by simp) ⟨_, rfl, q _ _ s1 sv0⟩⟩
abbrev s_is_run : Stmt := top 62
abbrev N_is_run : List Str := ["yard", "stream", "value", "sizes"]
theorem sc_is_run : FnScope N_is_run ["yard", "stream", "value", "sizes"] (defScope s_is_run) := ⟨rfl, rfl, rfl, by decide +kernel, rfl, by decide +kernel, by decide +kernel⟩
theorem ok_is_run {dV : List V} (F : FunD K "is_run" "is_run" (defArgs s_is_run) (defBody s_is_run) (defScope s_is_run) dV [] f fd) (c_want_stream : C8.Cal P w K mg base 3 "want_stream" spWantStream []) (c_want_sizes : C8.Cal P w K mg base 3 "want_sizes" (spWSz CY C) []) (c_fault_of : C8.Cal P w K mg base 4 "fault_of" (spFault CY C) []) : FnOk P w K mg base CX0 6 f fd ["yard", "stream", "value", "sizes"] (spIsRun CY C) := by
  refine okD0 F sc_is_run (fun vs H Q E h => ?_) (fun cdv A outer s0 H vs Q E hr h => ?_)
  · obtain ⟨y, L, zv, x, run, σ', z, ts, ps, bg, rfl, _⟩ := h
    rfl
  obtain ⟨y, L, zv, x, run, σ', z, ts, ps, bg, rfl, yk, yb, hx, hL, sk, rs, q⟩ := h
  refine ⟨_, (pss_cons (ps_expr (C8.pe_c c_want_stream hr (by decide) rfl (pa_cons (pv 1) pa_nil)))
        (pss_cons (ps_expr (C8.pe_c c_want_sizes hr (by decide) rfl (pa_cons (pv 0) (pa_cons (pv 3) pa_nil))))
        (pss_one (ps_ret (pe_cmp (pc_notN (pe_ix (kIxT K rfl) (C8.pe_c c_fault_of hr (by decide) rfl (pa_cons (pv 0) (pa_cons (pv 1) (pa_cons (pv 2) (pa_cons (pv 3) pa_nil))))) pe_int (fun _ _ => rfl)))))))), ?_⟩
  refine ⟨_, rfl, x, rfl, hx, fun H1 s1 => ⟨_, rfl, _, rfl, y, zv, z, ts, ps, rfl, yk.ya.nl (NL.of s1), yk.yo, sk.a.keep (Tups.of s1), sk.o, sk.i, fun H2 s2 => ?_⟩⟩
  have s12 := s1.trans' s2
  refine ⟨_, rfl, _, rfl, _, rfl, _, rfl, y, L, zv, x, run, σ', z, ts, ps, bg, rfl, yk.keep (NL.of s12), yb.nl (NL.of s12), hL.same s12, sk.keep (Tups.of s12), rs, fun H3 p v s3 hp sv => ?_⟩
  obtain ⟨va, _, _, _, rfl, _⟩ := sv
  exact ⟨_, _, _, _, rfl, rfl, SqT.of hp, rfl, q _ (s12.trans' s3)⟩
abbrev s_state_behind : Stmt := top 63
abbrev N_state_behind : List Str := ["yard", "stream", "run", "sizes"]
theorem sc_state_behind : FnScope N_state_behind ["yard", "stream", "run", "sizes"] (defScope s_state_behind) := ⟨rfl, rfl, rfl, by decide +kernel, rfl, by decide +kernel, by decide +kernel⟩
theorem ok_state_behind {dV : List V} (F : FunD K "state_behind" "state_behind" (defArgs s_state_behind) (defBody s_state_behind) (defScope s_state_behind) dV [] f fd) (c_want_stream : C8.Cal P w K mg base 3 "want_stream" spWantStream []) (c_want_sizes : C8.Cal P w K mg base 3 "want_sizes" (spWSz CY C) []) (c_behind_run : C8.Cal P w K mg base 5 "behind_run" (spBehind CY C) []) : FnOk P w K mg base CX0 6 f fd ["yard", "stream", "run", "sizes"] (spBehind CY C) := by
  refine okD0 F sc_state_behind (fun vs H Q E h => ?_) (fun cdv A outer s0 H vs Q E hr h => ?_)
  · obtain ⟨y, L, zv, x, run, σ', z, ts, ps, bg, rfl, _⟩ := h
    rfl
  obtain ⟨y, L, zv, x, run, σ', z, ts, ps, bg, rfl, yk, yb, hx, hL, sk, rs, q⟩ := h
  refine ⟨_, (pss_cons (ps_expr (C8.pe_c c_want_stream hr (by decide) rfl (pa_cons (pv 1) pa_nil)))
        (pss_cons (ps_expr (C8.pe_c c_want_sizes hr (by decide) rfl (pa_cons (pv 0) (pa_cons (pv 3) pa_nil))))
        (pss_one (ps_ret (C8.pe_c c_behind_run hr (by decide) rfl (pa_cons (pv 0) (pa_cons (pv 1) (pa_cons (pv 2) (pa_cons (pv 3) pa_nil))))))))), ?_⟩
  refine ⟨_, rfl, x, rfl, hx, fun H1 s1 => ⟨_, rfl, _, rfl, y, zv, z, ts, ps, rfl, yk.ya.nl (NL.of s1), yk.yo, sk.a.keep (Tups.of s1), sk.o, sk.i, fun H2 s2 => ?_⟩⟩
  have s12 := s1.trans' s2
  exact ⟨_, rfl, _, rfl, _, rfl, _, rfl, y, L, zv, x, run, σ', z, ts, ps, bg, rfl, yk.keep (NL.of s12), yb.nl (NL.of s12), hx, hL.same s12, sk.keep (Tups.of s12), rs, fun H3 v s3 sv => q _ _ (s12.trans' s3) sv⟩
abbrev s_is_full : Stmt := top 64
abbrev N_is_full : List Str := ["yard", "stream", "run", "sizes"]
theorem sc_is_full : FnScope N_is_full ["yard", "stream", "run", "sizes"] (defScope s_is_full) := ⟨rfl, rfl, rfl, by decide +kernel, rfl, by decide +kernel, by decide +kernel⟩
theorem ok_is_full {dV : List V} (F : FunD K "is_full" "is_full" (defArgs s_is_full) (defBody s_is_full) (defScope s_is_full) dV [] f fd) (c_possible : C8.Cal P w K mg base 4 "possible" (spPossible CY C) []) (c_state_behind : C8.Cal P w K mg base 6 "state_behind" (spBehind CY C) []) : FnOk P w K mg base CX0 7 f fd ["yard", "stream", "run", "sizes"] (spFull CY C) := by
  refine okD0 F sc_is_full (fun vs H Q E h => ?_) (fun cdv A outer s0 H vs Q E hr h => ?_)
  · obtain ⟨y, L, zv, x, run, σ', z, ts, ps, bg, rfl, _⟩ := h
    rfl
  obtain ⟨y, L, zv, x, run, σ', z, ts, ps, bg, rfl, yk, yb, hx, hL, sk, rs, q⟩ := h
  have oe := rs.okEnd
  refine ⟨_, (pss_one (ps_ret (pe_cmpR (kEqD K rfl hr.units) (C8.pe_c c_possible hr (by decide) rfl (pa_cons (pv 0) (pa_cons (C8.pe_c c_state_behind hr (by decide) rfl (pa_cons (pv 0) (pa_cons (pv 1) (pa_cons (pv 2) (pa_cons (pv 3) pa_nil))))) (pa_cons (pv 3) pa_nil)))) (pe_lst pa_nil) (nomark _)))), ?_⟩
  refine ⟨_, rfl, _, rfl, _, rfl, _, rfl, _, rfl, y, L, zv, x, run, σ', z, ts, ps, bg, rfl, yk, yb, hx, hL, sk, rs, fun H1 v s1 sv => ?_⟩
  refine ⟨_, rfl, y, v, zv, σ', z, ts, ps, rfl, yk.ya.nl (NL.of s1), sv, oe.1, yk.yo.ok, yk.yo.m2, yk.al, sk.a.keep (Tups.of s1), sk.o, fun H2 p s2 hp h2 => ?_⟩
  refine ⟨sz rfl, fun D hD => ?_⟩
  have k3 := same_new hD (.lst [])
  obtain ⟨a1, a2⟩ := able_small (qs := srt ps) (σ := σ') (z := z) yk.yo.m2
  refine ⟨_, .list [], .lst (SqL.of (k3 _ _ h2)) (dpints _), .lst (SqL.of upd_same) .nil, shp_ints a1 (by omega), by rfl, ?_⟩
  rw [eqv_nil]
  exact q _ ((s1.trans' s2).trans' k3)
end
end FY


set_option Elab.async false
set_option linter.all false
set_option maxRecDepth 100000
set_option maxHeartbeats 4000000
namespace FY
open PySem L2 FYR
section
variable {P : Program} {w : World} {K : PySem.W.Frag} {mg : Str → Option Value} {base : Heap} {aS a1 a2 aL aT : Addr} {f : Addr} {fd : FuncData} {C CD CY : Addr} {mc : Value}
abbrev s_finished : Stmt := top 65
abbrev N_finished : List Str := ["yard", "state", "sizes", "most", "found", "some"]
theorem sc_finished : FnScope N_finished ["yard", "state", "sizes", "most"] (defScope s_finished) := ⟨rfl, rfl, rfl, by decide +kernel, rfl, by decide +kernel, by decide +kernel⟩
theorem ok_finished {dV : List V} (F : FunD K "finished" "finished" (defArgs s_finished) (defBody s_finished) (defScope s_finished) dV [] f fd) (T : Txt K mg aS a1 a2) (c_possible : C8.Cal P w K mg base 4 "possible" (spPossible CY C) []) (c_after_beat : C8.Cal P w K mg base 3 "after_beat" (spAfter CY C) []) : FnOk P w K mg base CX0 5 f fd ["yard", "state", "sizes", "most"] (spFin CY C) := by
  refine okD0 F sc_finished (fun vs H Q E h => ?_) (fun cdv A outer s0 H vs Q E hr h => ?_)
  · obtain ⟨y, v, zv, σ, σ', m, run, z, ts, ps, rfl, _⟩ := h
    rfl
  obtain ⟨y, v, zv, σ, σ', m, run, z, ts, ps, rfl, yk, sa, sk, fs, lm, m5, q⟩ := h
  obtain ⟨so, fo⟩ := fs.ok
  refine ⟨_, (pss_cons (ps_par (i := 4) (j := 5) rfl sc_finished.nd rfl rfl (by decide) rfl rfl (pa_cons (pe_lst pa_nil) (pa_cons (C8.pe_c c_possible hr (by decide) rfl (pa_cons (pv 0) (pa_cons (pv 1) (pa_cons (pv 2) pa_nil)))) pa_nil)) rfl)
        (pss_cons (ps_while PassesOwn.never (pt_cmpR (kNeD K rfl hr.units) (pv 5) (pe_lst pa_nil) (nomark _))
        (pss_cons (ps_if (pt_cmpR op_eq (pe_callB (kLen K rfl) rfl T.b_len bt_len (pa_cons (pv 4) pa_nil)) (pv 3) (nomark _))
        (pss_one ps_never)
        pss_nil)
        (pss_cons (ps_expr (kBm K rfl PySem.F.plainAttrs_list PySem.F.slot_list_append PySem.F.type_list_append mt_append (pv 4) (pa_cons (pe_ix (kIxL K rfl) (pv 5) pe_int (fun _ _ => rfl)) pa_nil)))
        (pss_cons (ps_set (i := 1) sc_finished.nd rfl (Or.inl rfl) (C8.pe_c c_after_beat hr (by decide) rfl (pa_cons (pv 0) (pa_cons (pv 1) (pa_cons (pe_ix (kIxL K rfl) (pv 5) pe_int (fun _ _ => rfl)) pa_nil)))))
        (pss_one (ps_set (i := 5) sc_finished.nd rfl (Or.inl rfl) (C8.pe_c c_possible hr (by decide) rfl (pa_cons (pv 0) (pa_cons (pv 1) (pa_cons (pv 2) pa_nil))))))))))
        (pss_one (ps_ret (pe_tup (pa_cons (pv 1) (pa_cons (pv 4) pa_nil))))))), ?_⟩
  refine ⟨sz rfl, fun L hL => ?_⟩
  have k1 := same_new hL (.lst [])
  refine ⟨_, rfl, _, rfl, _, rfl, y, v, zv, σ, z, ts, ps, rfl, yk.ya.nl (NL.of k1), sa.keep (Tups.of k1), so, yk.yo.ok, yk.yo.m2, yk.al, sk.a.keep (Tups.of k1), sk.o, fun H2 p s2 hp h2 => ?_⟩
  refine ⟨_, _, rfl, ?_⟩
  refine ⟨fun n τ H' => ∃ (u : V) (G : Addr) (σi : Sta) (dn rest : List Nat), τ = [some (.ref y), some u, some zv, some (.int (m : Nat)), some (.ref L), some (.ref G)] ∧ run = dn ++ rest ∧ rest.length = n ∧ Same H H' ∧ StaA H' u σi ∧ FinS ts ps z σi rest σ' ∧ H' L = some (.lst (nV dn)) ∧ H' G = some (.lst (nV (ableS ts (srt ps) σi z))) ∧ G ≠ L, ⟨run.length, v, p, σ, [], run, rfl, rfl, rfl, k1.trans' s2, sa.keep (Tups.of (k1.trans' s2)), fs, s2 _ _ upd_same, h2, (ne_of_none upd_same hp).symm⟩, ?_⟩
  rintro n τ H3 ⟨u, G, σi, dn, rest, rfl, er, rfl, sm, su, fi, hLd, hG, nG⟩
  obtain ⟨a1', a2'⟩ := able_small (qs := srt ps) (σ := σi) (z := z) yk.yo.m2
  refine ⟨_, rfl, sz rfl, fun D hD => ?_⟩
  have k3 := same_new hD (.lst [])
  refine ⟨_, .list [], .lst (SqL.of (k3 _ _ hG)) (dpints _), .lst (SqL.of upd_same) .nil, shp_ints a1' (by omega), by rfl, _, rfl, ?_⟩
  rw [eqv_nil]
  cases fi with
  | stop so' fo' e =>
    refine iteFd (by rw [decide_eq_true e]; rfl) ?_
    rw [List.append_nil] at er
    subst er
    exact ⟨_, rfl, _, rfl, sz rfl, fun p5 hp5 => q _ _ u L ((sm.trans' k3).trans' (same_new hp5 _)) hL upd_same (su.keep (Tups.of (k3.trans' (same_new hp5 _)))) ((k3.trans' (same_new hp5 _)) _ _ hLd)⟩
  | @beat _ _ s r ss so' fo' e fi =>
    obtain ⟨ls, cs⟩ := able_can e
    obtain ⟨rw0, er0⟩ := can_row cs
    have et : ts[s]? = some ts[s] := List.getElem?_eq_getElem ls
    have ld : dn.length < m := by
      have : run.length = dn.length + (r.length + 1) := by rw [er]; simp
      omega
    have sm3 := sm.trans' k3
    refine iteTd (by rw [e]; rfl) ⟨fun τ' H' => ∃ (u : V) (G : Addr) (σi : Sta), τ' = [some (.ref y), some u, some zv, some (.int (m : Nat)), some (.ref L), some (.ref G)] ∧ Same H H' ∧ StaA H' u σi ∧ FinS ts ps z σi r σ' ∧ H' L = some (.lst (nV (dn ++ [s]))) ∧ H' G = some (.lst (nV (ableS ts (srt ps) σi z))) ∧ G ≠ L, fun τ' H' ⟨u, G, σi, h1, h2, h3, h4, h5, h6, h7⟩ => ⟨r.length, by simp, u, G, σi, dn ++ [s], r, h1, by rw [er]; simp, rfl, h2, h3, h4, h5, h6, h7⟩, ?_⟩
    refine ⟨_, rfl, _, _, rfl, .inl (SqL.of (k3 _ _ hLd)), _, rfl, rfl, _, rfl, iteFd (by rw [nV_len]; simp; omega) ?_⟩
    have hG3 := k3 _ _ hG
    rw [e] at hG3
    refine ⟨_, rfl, .inl ⟨rfl, _, SqL.of (k3 _ _ hLd)⟩, _, rfl, _, _, _, _, rfl, rfl, SqL.of hG3, atI_nat (i := 0) rfl, _, _, _, rfl, rfl, k3 _ _ hLd, by rw [nV_len]; exact Nat.lt_of_lt_of_le (show dn.length < 100000 by omega) (by decide), ?_⟩
    have nl4 : NL H3 (upd (upd H3 D (.lst [])) L (.lst (nV dn ++ [.int (s : Nat)]))) := (NL.of k3).trans (NL.at (k3 _ _ hLd))
    have sm4 := same_at (o := .lst (nV dn ++ [.int (s : Nat)])) sm3 hL
    have hG4 : (upd (upd H3 D (.lst [])) L (.lst (nV dn ++ [.int (s : Nat)]))) G = some (.lst (nV (s :: ss))) := (upd_ne nG).trans hG3
    have hL4 : (upd (upd H3 D (.lst [])) L (.lst (nV dn ++ [.int (s : Nat)]))) L = some (.lst (nV (dn ++ [s]))) := by rw [upd_same]; unfold nV; simp
    refine ⟨_, rfl, _, rfl, _, rfl, _, _, _, _, rfl, rfl, SqL.of hG4, atI_nat (i := 0) rfl, y, u, σi, s, ts[s], rw0, ts, ps, rfl, yk.ya.nl (NL.of sm4), su.keep nl4.tups, so', fo', yk.yo, yk.al, et, er0, fun H5 u5 s5 su5 => ?_⟩
    have ef : aftR ts ps σi s = aftS ts (srt ps) (exitsOf ts ps) σi s rw0 := by unfold aftR; rw [er0]
    rw [← ef] at su5
    have sm5 := sm4.trans' s5
    refine ⟨_, rfl, _, rfl, _, rfl, y, u5, zv, aftR ts ps σi s, z, ts, ps, rfl, yk.ya.nl (NL.of sm5), su5, fi.ok.1, yk.yo.ok, yk.yo.m2, yk.al, sk.a.keep (Tups.of sm5), sk.o, fun H6 p6 s6 hp6 h6 => ?_⟩
    exact ⟨u5, p6, _, rfl, sm5.trans' s6, su5.keep (Tups.of s6), fi, s6 _ _ (s5 _ _ hL4), h6, (ne_of_none (s5 _ _ hL4) hp6).symm⟩
abbrev s_full_run : Stmt := top 66
abbrev N_full_run : List Str := ["yard", "stream", "sizes"]
theorem sc_full_run : FnScope N_full_run ["yard", "stream", "sizes"] (defScope s_full_run) := ⟨rfl, rfl, rfl, by decide +kernel, rfl, by decide +kernel, by decide +kernel⟩
theorem ok_full_run {dV : List V} (F : FunD K "full_run" "full_run" (defArgs s_full_run) (defBody s_full_run) (defScope s_full_run) dV [] f fd) (c_want_stream : C8.Cal P w K mg base 3 "want_stream" spWantStream []) (c_want_sizes : C8.Cal P w K mg base 3 "want_sizes" (spWSz CY C) []) (c_begun : C8.Cal P w K mg base 1 "begun" (spBegun CY C) []) (c_finished : C8.Cal P w K mg base 5 "finished" (spFin CY C) [.int (20000 : Nat)]) : FnOk P w K mg base CX0 6 f fd ["yard", "stream", "sizes"] (spRunF CY C) := by
  refine okD0 F sc_full_run (fun vs H Q E h => ?_) (fun cdv A outer s0 H vs Q E hr h => ?_)
  · obtain ⟨y, zv, x, σ', run, z, ts, ps, bg, rfl, _⟩ := h
    rfl
  obtain ⟨y, zv, x, σ', run, z, ts, ps, bg, rfl, yk, yb, hx, sk, fs, l2, q⟩ := h
  refine ⟨_, (pss_cons (ps_expr (C8.pe_c c_want_stream hr (by decide) rfl (pa_cons (pv 1) pa_nil)))
        (pss_cons (ps_expr (C8.pe_c c_want_sizes hr (by decide) rfl (pa_cons (pv 0) (pa_cons (pv 2) pa_nil))))
        (pss_one (ps_ret (pe_ix (kIxT K rfl) (C8.pe_c c_finished hr (by decide) rfl (pa_cons (pv 0) (pa_cons (C8.pe_c c_begun hr (by decide) rfl (pa_cons (pv 0) (pa_cons (pv 1) pa_nil))) (pa_cons (pv 2) pa_nil)))) pe_int (fun _ _ => rfl)))))), ?_⟩
  refine ⟨_, rfl, x, rfl, hx, fun H1 s1 => ⟨_, rfl, _, rfl, y, zv, z, ts, ps, rfl, yk.ya.nl (NL.of s1), yk.yo, sk.a.keep (Tups.of s1), sk.o, sk.i, fun H2 s2 => ?_⟩⟩
  have s12 := s1.trans' s2
  refine ⟨_, rfl, _, rfl, _, rfl, y, x, ts, ps, bg, rfl, yk.ya.nl (NL.of s12), yb.nl (NL.of s12), yk.yo.ex, fun H3 v s3 sv => ?_⟩
  have s13 := s12.trans' s3
  refine ⟨_, rfl, y, v, zv, begS bg (exitsOf ts ps) x, σ', 20000, run, z, ts, ps, rfl, yk.keep (NL.of s13), sv, sk.keep (Tups.of s13), fs, l2, by decide, fun H4 p u L s4 hL hp su hL4 => ?_⟩
  exact ⟨_, _, _, _, rfl, rfl, SqT.of hp, atI_nat (i := 1) rfl, q _ _ (s13.trans' s4) (none_of s13 hL) hL4⟩
abbrev s_end : Stmt := top 67
abbrev N_end : List Str := ["yard", "stream", "sizes"]
theorem sc_end : FnScope N_end ["yard", "stream", "sizes"] (defScope s_end) := ⟨rfl, rfl, rfl, by decide +kernel, rfl, by decide +kernel, by decide +kernel⟩
theorem ok_end {dV : List V} (F : FunD K "end" "end" (defArgs s_end) (defBody s_end) (defScope s_end) dV [] f fd) (c_want_stream : C8.Cal P w K mg base 3 "want_stream" spWantStream []) (c_want_sizes : C8.Cal P w K mg base 3 "want_sizes" (spWSz CY C) []) (c_begun : C8.Cal P w K mg base 1 "begun" (spBegun CY C) []) (c_finished : C8.Cal P w K mg base 5 "finished" (spFin CY C) [.int (20000 : Nat)]) : FnOk P w K mg base CX0 6 f fd ["yard", "stream", "sizes"] (spEnd CY C) := by
  refine okD0 F sc_end (fun vs H Q E h => ?_) (fun cdv A outer s0 H vs Q E hr h => ?_)
  · obtain ⟨y, zv, x, σ', run, z, ts, ps, bg, rfl, _⟩ := h
    rfl
  obtain ⟨y, zv, x, σ', run, z, ts, ps, bg, rfl, yk, yb, hx, sk, fs, l2, q⟩ := h
  refine ⟨_, (pss_cons (ps_expr (C8.pe_c c_want_stream hr (by decide) rfl (pa_cons (pv 1) pa_nil)))
        (pss_cons (ps_expr (C8.pe_c c_want_sizes hr (by decide) rfl (pa_cons (pv 0) (pa_cons (pv 2) pa_nil))))
        (pss_one (ps_ret (pe_ix (kIxT K rfl) (C8.pe_c c_finished hr (by decide) rfl (pa_cons (pv 0) (pa_cons (C8.pe_c c_begun hr (by decide) rfl (pa_cons (pv 0) (pa_cons (pv 1) pa_nil))) (pa_cons (pv 2) pa_nil)))) pe_int (fun _ _ => rfl)))))), ?_⟩
  refine ⟨_, rfl, x, rfl, hx, fun H1 s1 => ⟨_, rfl, _, rfl, y, zv, z, ts, ps, rfl, yk.ya.nl (NL.of s1), yk.yo, sk.a.keep (Tups.of s1), sk.o, sk.i, fun H2 s2 => ?_⟩⟩
  have s12 := s1.trans' s2
  refine ⟨_, rfl, _, rfl, _, rfl, y, x, ts, ps, bg, rfl, yk.ya.nl (NL.of s12), yb.nl (NL.of s12), yk.yo.ex, fun H3 v s3 sv => ?_⟩
  have s13 := s12.trans' s3
  refine ⟨_, rfl, y, v, zv, begS bg (exitsOf ts ps) x, σ', 20000, run, z, ts, ps, rfl, yk.keep (NL.of s13), sv, sk.keep (Tups.of s13), fs, l2, by decide, fun H4 p u L s4 hL hp su hL4 => ?_⟩
  exact ⟨_, _, _, _, rfl, rfl, SqT.of hp, atI_nat (i := 0) rfl, q _ _ (s13.trans' s4) su⟩
abbrev s_flows : Stmt := top 68
abbrev N_flows : List Str := ["yard", "stream"]
theorem sc_flows : FnScope N_flows ["yard", "stream"] (defScope s_flows) := ⟨rfl, rfl, rfl, by decide +kernel, rfl, by decide +kernel, by decide +kernel⟩
theorem ok_flows (F : Fun K "flows" "flows" s_flows f fd) (T : Txt K mg aS a1 a2) (c_end : C8.Cal P w K mg base 6 "end" (spEnd CY C) [.non]) : FnOk P w K mg base CX0 7 f fd ["yard", "stream"] (spFlows CY C) := by
  refine F.ok sc_flows (fun vs H Q E h => ?_) (fun cdv A outer s0 H vs Q E hr h => ?_)
  · obtain ⟨y, x, σ', run, ts, ps, bg, rfl, _⟩ := h
    rfl
  obtain ⟨y, x, σ', run, ts, ps, bg, rfl, yk, yb, hx, fs, l2, q⟩ := h
  refine ⟨_, (pss_one (ps_ret (pe_callTy call_list_of rfl T.b_list bt_list (pa_cons (pe_ix (kIxT K rfl) (C8.pe_c c_end hr (by decide) rfl (pa_cons (pv 0) (pa_cons (pv 1) pa_nil))) pe_int (fun _ _ => rfl)) pa_nil)))), ?_⟩
  refine ⟨_, rfl, _, rfl, y, .non, x, σ', run, none, ts, ps, bg, rfl, yk, yb, hx, .none, fs, l2, fun H1 u s1 su => ?_⟩
  obtain ⟨a, b, c, d, rfl, h1, h2, h3, h4⟩ := su
  exact ⟨_, _, _, _, rfl, rfl, SqT.of h1, atI_nat (i := 3) rfl, _, _, rfl, .inr (SqT.of h4), fun l hl => q _ _ (s1.trans' (same_new hl _)) (none_of s1 hl) upd_same⟩
end
end FY


set_option Elab.async false
set_option linter.all false
set_option maxRecDepth 100000
set_option maxHeartbeats 4000000
namespace FY
open PySem L2 FYR
/-! ## the yards' laws: drawn rows, stations, plans -/
theorem hu2 {k : Nat} {A : Around} (r : Room k A) : A.units + 2 < cLine := by have := r.units; omega
theorem g8 {x : V} (h : x ∈ [V.str "", V.str "0", V.str "1", V.str "0", V.str "1", V.str "01", V.str "10", V.str "11"]) : ∃ b : List Bool, x = .str (tx b) ∧ b.length ≤ 2 := by
  simp only [List.mem_cons, List.not_mem_nil, or_false] at h
  rcases h with h | h | h | h | h | h | h | h
  · exact ⟨[], by rw [h]; exact congrArg V.str (by decide +kernel), by decide⟩
  · exact ⟨[false], by rw [h]; exact congrArg V.str (by decide +kernel), by decide⟩
  · exact ⟨[true], by rw [h]; exact congrArg V.str (by decide +kernel), by decide⟩
  · exact ⟨[false], by rw [h]; exact congrArg V.str (by decide +kernel), by decide⟩
  · exact ⟨[true], by rw [h]; exact congrArg V.str (by decide +kernel), by decide⟩
  · exact ⟨[false, true], by rw [h]; exact congrArg V.str (by decide +kernel), by decide⟩
  · exact ⟨[true, false], by rw [h]; exact congrArg V.str (by decide +kernel), by decide⟩
  · exact ⟨[true, true], by rw [h]; exact congrArg V.str (by decide +kernel), by decide⟩
def spRowL : Sp := fun vs H Q _ => ∃ (p : Addr) (outs many : Nat), vs = [.ref p, .int (outs : Nat), .int (many : Nat)] ∧ Pot p H ∧ outs ≤ 2 ∧ 1 ≤ many ∧ many ≤ 4 ∧ ∀ (v : V) (r : Rw) (H' : Hp), RwA H' v r → r.ok outs many → Kp p H H' → Pot p H' → Q v H'
theorem kl_kp {A : List Addr} {p : Addr} {H H' : Hp} (po : Pot p H) (k : Kp p H H') (hp : p ∈ A) : KL A H H' := fun b o _ n e => by
  by_cases z : b = p
  · subst z
    obtain ⟨c, d, h, _⟩ := po
    rw [h] at e
    exact absurd (Option.some.inj e).symm (n hp _)
  · exact k b o z e
theorem kp_nn {A : List Addr} {p : Addr} {H H' : Hp} (po : Pot p H') (k : Kp p H H') (h : ∀ a ∈ A, H a ≠ none) : ∀ a ∈ A, H' a ≠ none := fun a ha z => by
  by_cases e : a = p
  · subst e
    obtain ⟨c, d, h, _⟩ := po
    rw [h] at z
    cases z
  · cases y : H a with
    | none => exact h a ha y
    | some o => rw [k a o e y] at z; cases z
theorem same_nn {A : List Addr} {H H' : Hp} (s : Same H H') (h : ∀ a ∈ A, H a ≠ none) : ∀ a ∈ A, H' a ≠ none := fun a ha z => by
  cases y : H a with
  | none => exact h a ha y
  | some o => rw [s _ _ y] at z; cases z
theorem upd_nn {A : List Addr} {H : Hp} {L : Addr} {o : HO} (h : ∀ a ∈ A, H a ≠ none) : ∀ a ∈ A, upd H L o a ≠ none := fun a ha z => by
  by_cases e : a = L
  · subst e; rw [upd_same] at z; cases z
  · rw [upd_ne e] at z; exact h a ha z
theorem pk4 {x : V} (h : x ∈ [V.str "1", V.str "2", V.str "12", V.str "12"]) : ∃ r : Rd, x = .str r.s := by
  simp only [List.mem_cons, List.not_mem_nil, or_false] at h
  rcases h with h | h | h | h
  · exact ⟨.one, h⟩
  · exact ⟨.two, h⟩
  · exact ⟨.both, h⟩
  · exact ⟨.both, h⟩
theorem rd_many (r : Rd) : 2 * r.s.length = r.many := by cases r <;> decide +kernel
theorem rd_len (r : Rd) : r.s.length ≤ 2 := by cases r <;> decide +kernel
def spStationL : Sp := fun vs H Q _ => ∃ (p : Addr) (ins outs most : Nat) (A : List Addr), vs = [.ref p, .int (ins : Nat), .int (outs : Nat), .int (most : Nat)] ∧ Pot p H ∧ p ∈ A ∧ (∀ a ∈ A, H a ≠ none) ∧ 1 ≤ ins ∧ ins ≤ 2 ∧ 1 ≤ outs ∧ outs ≤ 2 ∧ 1 ≤ most ∧ most ≤ 4 ∧ ∀ (v : V) (t : Stn) (H' : Hp), DatA A H' v t → t.ok → t.ins = ins → t.outs = outs → Kp p H H' → Pot p H' → Q v H'
section
variable {P : Program} {w : World} {K : PySem.W.Frag} {mg : Str → Option Value} {base : Heap} {aS a1 a2 aL aT : Addr} {f : Addr} {fd : FuncData} {C CD CY : Addr} {mc : Value}
abbrev s_law_row : Stmt := top 73
abbrev N_law_row : List Str := ["_law_pot_here", "_law_outs_now", "_law_many", "_law_gives", "_law_line"]
theorem sc_law_row : FnScope N_law_row ["_law_pot_here", "_law_outs_now", "_law_many"] (defScope s_law_row) := ⟨rfl, rfl, rfl, by decide +kernel, rfl, by decide +kernel, by decide +kernel⟩
theorem ok_law_row (F : Fun K "_law_row" "_law_row" s_law_row f fd) (T : Txt K mg aS a1 a2) (c__law_draw : C8.Cal P w K mg base 1 "_law_draw" spDraw []) (c__law_pick : C8.Cal P w K mg base 2 "_law_pick" spPick []) : FnOk P w K mg base CX0 3 f fd ["_law_pot_here", "_law_outs_now", "_law_many"] spRowL := by
  refine F.ok sc_law_row (fun vs H Q E h => ?_) (fun cdv A outer s H vs Q E hr h => ?_)
  · obtain ⟨p, o, m, rfl, _⟩ := h
    rfl
  obtain ⟨p, outs, many, rfl, p0, o2, m1, m4, q⟩ := h
  refine ⟨_, (pss_cons (ps_set (i := 3) sc_law_row.nd rfl (Or.inl rfl) (pe_callTy (kTupOf K rfl) rfl T.b_tuple bt_tuple (pa_cons (pe_lc (own := [("_law_line", 4)]) rfl sc_law_row.nd (pi_range1 rfl T.b_range (pa_cons (pv 1) pa_nil)) (blkOk_by (N := N_law_row) (sc := defScope s_law_row) (by decide +kernel)) (fun _ _ _ _ _ => (pg_name (i := 4) sc_law_row.nd rfl (Or.inl rfl))) (fun _ _ _ _ _ => pts_nil) (fun _ _ _ _ _ => (C8.pe_c c__law_pick hr (by decide) rfl (pa_cons (pv 0) (pa_cons (pe_lst (pa_cons pe_str (pa_cons pe_str (pa_cons pe_str (pa_cons pe_str (pa_cons pe_str (pa_cons pe_str (pa_cons pe_str (pa_cons pe_str pa_nil))))))))) pa_nil))))) pa_nil)))
        (pss_one (ps_ret (pe_tup (pa_cons (pv 3) (pa_cons (C8.pe_c c__law_draw hr (by decide) rfl (pa_cons (pv 0) (pa_cons (pv 2) pa_nil))) (pa_cons (pe_op op_add pe_int (C8.pe_c c__law_draw hr (by decide) rfl (pa_cons (pv 0) (pa_cons pe_int pa_nil)))) pa_nil))))))), ?_⟩
  refine ⟨_, rfl, outs, rfl, by omega, by omega, fun D hD => lc_it walk_range (fun i H' => ∃ bs : List (List Bool), bs.length = i ∧ (∀ b ∈ bs, b.length ≤ 2) ∧ H' D = some (.lst (tV bs)) ∧ Kp p H H' ∧ Pot p H') ⟨[], rfl, by simp, upd_same, kp_new hD _, p0.same (same_new hD _)⟩ (fun _ _ _ _ => trivial) ?_ ?_⟩
  · rintro i x H6 H7 hi ⟨bs, hbs, h2, hd, kk, pp⟩ ⟨rfl, rfl⟩
    refine ⟨rfl, tyI ⟨_, rfl, sz rfl, fun L hL => ⟨p, L, _, rfl, pp.same (same_new hL _), pp.ne hL, upd_same, by decide, by decide, fun y H8 hy k8 p8 => ?_⟩⟩⟩
    obtain ⟨b, rfl, hb⟩ := g8 hy
    refine ⟨_, k8 _ _ (p0.ne hD) (same_new hL _ _ _ hd), ?_, bs ++ [b], by simp [hbs], fun z hz => ?_, by rw [upd_same]; unfold tV; simp, kp_at (kk.trans ((kp_new hL _).trans k8)) hD, pot_at p8 (p0.ne hD)⟩
    · rw [tV_len]
      exact Nat.lt_of_lt_of_le (show bs.length < 100000 by omega) (by decide)
    · rcases List.mem_append.mp hz with hz | hz
      · exact h2 z hz
      · rw [List.mem_singleton.mp hz]; exact hb
  · rintro H6 ⟨bs, hbs, h2, hd, kk, pp⟩
    refine ⟨_, _, rfl, .inl ⟨SqL.of hd, fun g hg => ?_⟩⟩
    have k7 := same_new hg (.tup (tV bs))
    refine ⟨_, rfl, _, rfl, _, rfl, p, _, rfl, pp.same k7, by omega, by omega, fun d H8 d0 d1 k8 p8 => ?_⟩
    refine ⟨_, rfl, p, _, rfl, p8, by decide, by decide, fun e H9 e0 e1 k9 p9 => ⟨_, _, rfl, rfl, sz rfl, fun a ha => ?_⟩⟩
    have ng := pp.ne hg
    have hg9 := k9 _ _ ng (k8 _ _ ng upd_same)
    have k10 := same_new ha (.tup [.ref g, .int d, .int (1 + e)])
    have ed : d = ((d.toNat : Nat) : Int) := (Int.toNat_of_nonneg d0).symm
    have ee : 1 + e = ((1 + e).toNat : Int) := (Int.toNat_of_nonneg (by omega)).symm
    refine q (.ref a) ⟨bs, d.toNat, (1 + e).toNat⟩ _ ⟨a, g, rfl, ?_, k10 _ _ hg9⟩ ⟨by show bs.length = outs; omega, h2, by show d.toNat < many; omega, by show 1 ≤ (1 + e).toNat; omega, by show (1 + e).toNat ≤ 9; omega⟩ (((kk.trans (Kp.of k7)).trans (k8.trans k9)).trans (Kp.of k10)) (p9.same k10)
    rw [upd_same]
    show some (HO.tup [.ref g, .int d, .int (1 + e)]) = some (HO.tup [.ref g, .int (d.toNat : Nat), .int ((1 + e).toNat : Nat)])
    rw [← ed, ← ee]
abbrev s_law_station : Stmt := top 74
abbrev N_law_station : List Str := ["_law_pot_here", "_law_ins_now", "_law_outs_now", "_law_most", "_law_many", "_law_found", "_law_at", "_law_told", "_law_turn"]
theorem sc_law_station : FnScope N_law_station ["_law_pot_here", "_law_ins_now", "_law_outs_now", "_law_most"] (defScope s_law_station) := ⟨rfl, rfl, rfl, by decide +kernel, rfl, by decide +kernel, by decide +kernel⟩
theorem ok_law_station (F : Fun K "_law_station" "_law_station" s_law_station f fd) (T : Txt K mg aS a1 a2) (c__law_draw : C8.Cal P w K mg base 1 "_law_draw" spDraw []) (c__law_pick : C8.Cal P w K mg base 2 "_law_pick" spPick []) (c__law_row : C8.Cal P w K mg base 3 "_law_row" spRowL []) : FnOk P w K mg base CX0 4 f fd ["_law_pot_here", "_law_ins_now", "_law_outs_now", "_law_most"] spStationL := by
  refine F.ok sc_law_station (fun vs H Q E h => ?_) (fun cdv A outer s H vs Q E hr h => ?_)
  · obtain ⟨p, i, o, m, A, rfl, _⟩ := h
    rfl
  obtain ⟨p, ins, outs, most, A, rfl, p0, pA, nA, i1, i2, o1, o2, m1, m4, q⟩ := h
  refine ⟨_, (pss_cons (ps_asg (pe_tup (pa_cons (pe_op op_add pe_int (C8.pe_c c__law_draw hr (by decide) rfl (pa_cons (pv 0) (pa_cons (pv 3) pa_nil)))) (pa_cons (pe_lst pa_nil) pa_nil))) (kTupG (n := 2) K rfl rfl (pgs_cons (pg_name (i := 4) sc_law_station.nd rfl (Or.inr rfl)) (pgs_cons (pg_name (i := 5) sc_law_station.nd rfl (Or.inl rfl)) pgs_nil))))
        (pss_cons (ps_for PassesOwn.never rfl (pi_range1 rfl T.b_range (pa_cons (pv 4) pa_nil)) (pg_name (i := 6) sc_law_station.nd rfl (Or.inl rfl))
        (pss_cons (ps_set (i := 7) sc_law_station.nd rfl (Or.inl rfl) (pe_ifExp (pt_cmpR op_eq (pv 1) pe_int (nomark _)) pe_str (C8.pe_c c__law_pick hr (by decide) rfl (pa_cons (pv 0) (pa_cons (pe_lst (pa_cons pe_str (pa_cons pe_str (pa_cons pe_str (pa_cons pe_str pa_nil))))) pa_nil)))))
        (pss_one (ps_expr (kBm K rfl PySem.F.plainAttrs_list PySem.F.slot_list_append PySem.F.type_list_append mt_append (pv 5) (pa_cons (pe_tup (pa_cons (pv 7) (pa_cons (pe_lc (own := [("_law_turn", 8)]) rfl sc_law_station.nd (pi_range1 rfl T.b_range (pa_cons (pe_op op_mul pe_int (pe_callB call_len_str rfl T.b_len bt_len (pa_cons (pv 7) pa_nil))) pa_nil)) (blkOk_by (N := N_law_station) (sc := defScope s_law_station) (by decide +kernel)) (fun _ _ _ _ _ => (pg_name (i := 8) sc_law_station.nd rfl (Or.inl rfl))) (fun _ _ _ _ _ => pts_nil) (fun _ _ _ _ _ => (C8.pe_c c__law_row hr (by decide) rfl (pa_cons (pv 0) (pa_cons (pv 2) (pa_cons (pv 4) pa_nil)))))) pa_nil))) pa_nil))))))
        (pss_one (ps_ret (pe_tup (pa_cons (pv 1) (pa_cons (pv 2) (pa_cons (pv 5) pa_nil)))))))), ?_⟩
  refine ⟨_, rfl, _, rfl, p, _, rfl, p0, by omega, by omega, fun d H1 d0 d1 k1 p1 => ⟨_, _, rfl, rfl, sz rfl, fun L hL => ⟨sz rfl, fun T0 hT0 => ?_⟩⟩⟩
  obtain ⟨many, hm, em1, em4⟩ : ∃ many : Nat, 1 + d = (many : Int) ∧ 1 ≤ many ∧ many ≤ 4 := ⟨(1 + d).toNat, (Int.toNat_of_nonneg (by omega)).symm, by omega, by omega⟩
  dsimp only
  rw [hm]
  have kL := same_new hL (.lst [])
  have kT := same_new hT0 (.tup [.int (many : Nat), .ref L])
  have nL := p1.ne hL
  have nA1 := kp_nn p1 k1 nA
  have LA : L ∉ A := new_nin nA1 hL
  refine ⟨_, _, rfl, SqT.of upd_same, rfl, _, _, rfl, _, _, rfl, rfl, ?_⟩
  have hL2 := kT _ _ (upd_same (H := H1) (a := L) (o := .lst []))
  have nA2 : ∀ a ∈ L :: A, (upd (upd H1 L (.lst [])) T0 (.tup [.int (many : Nat), .ref L])) a ≠ none := fun a ha => by
    rcases List.mem_cons.mp ha with e | e
    · rw [e, hL2]; simp
    · exact same_nn (kL.trans' kT) nA1 a e
  have pLA : p ∈ L :: A := List.mem_cons_of_mem _ pA
  have lLA : L ∈ L :: A := List.mem_cons_self ..
  refine ⟨_, rfl, many, rfl, by omega, by omega, for_it walk_range (fun i τ H' => ∃ (a b : Option V) (ws : List V) (sg : List Sg), τ = [some (.ref p), some (.int (ins : Nat)), some (.int (outs : Nat)), some (.int (most : Nat)), some (.int (many : Nat)), some (.ref L), a, b, none] ∧ sg.length = i ∧ (∀ s ∈ sg, s.ok ins outs many) ∧ Paired (ToldX (L :: A) H') ws sg ∧ H' L = some (.lst ws) ∧ Kp p H1 H' ∧ Pot p H' ∧ ∀ a ∈ L :: A, H' a ≠ none) ⟨_, _, [], [], rfl, rfl, by simp, .nil, hL2, Kp.of (kL.trans' kT), p1.same (kL.trans' kT), nA2⟩ (fun _ _ _ _ _ => trivial) ?_ ?_⟩
  · rintro i x τ G1 G2 hi ⟨a, b, ws, sg, rfl, ls, sok, pw, hLw, kp, po, nn⟩ ⟨rfl, rfl⟩
    refine ⟨_, rfl, rfl, _, rfl, ?_⟩
    have lw := paired_len2 pw
    rcases Nat.decEq ins 1 with hin | hin
    -- two lines
    refine iteFd (by rw [dec_int]; exact decide_eq_false (by omega)) ⟨_, rfl, sz rfl, fun L3 hL3 => ⟨p, L3, _, rfl, po.same (same_new hL3 _), po.ne hL3, upd_same, by decide, by decide, fun y H6 hy k6' p6 => ?_⟩⟩
    obtain ⟨rd, rfl⟩ := pk4 hy
    have k6 : Kp p G2 H6 := (kp_new hL3 _).trans k6'
    have hrd : rd = .one ∨ ins = 2 := .inr (by omega)
    clear hy k6' hL3
    rotate_left
    -- one line
    refine iteTd (by rw [dec_int]; exact decide_eq_true (by omega)) ?_
    obtain ⟨rd, ers, hrd⟩ : ∃ rd : Rd, ("1" : Str) = rd.s ∧ (rd = .one ∨ ins = 2) := ⟨.one, rfl, .inl rfl⟩
    obtain ⟨H6, hH6⟩ : ∃ H6, H6 = G2 := ⟨_, rfl⟩
    rw [ers, ← hH6]
    have k6 : Kp p G2 H6 := by rw [hH6]; exact Kp.refl _ _
    have p6 : Pot p H6 := by rw [hH6]; exact po
    clear ers hH6
    all_goals
      have kl6 := kl_kp po k6 pLA
      have hL6 : H6 L = some (.lst ws) := k6 _ _ nL hLw
      have nn6 := kp_nn p6 k6 nn
      have r2 := rd_len rd
      refine ⟨_, rfl, .inl ⟨rfl, _, SqL.of hL6⟩, _, rfl, _, rfl, _, rfl, Nat.le_trans r2 (by decide), _, _, rfl, rfl, .inl (by decide), ((2 * rd.s.length : Nat) : Int), by simp, by omega, by omega, fun D hD => lc_it walk_range (fun j H' => ∃ (vr : List V) (rs : List Rw), rs.length = j ∧ (∀ r ∈ rs, r.ok outs many) ∧ Paired (RwA H') vr rs ∧ H' D = some (.lst vr) ∧ Kp p H6 H' ∧ Pot p H') ⟨[], [], rfl, by simp, .nil, upd_same, kp_new hD _, p6.same (same_new hD _)⟩ (fun _ _ _ _ => trivial) ?_ ?_⟩
      · rintro j x H7 H8 hj ⟨vr, rs, lr, rok, pr, hd, kk, pp⟩ ⟨rfl, rfl⟩
        refine ⟨rfl, tyI ⟨_, rfl, _, rfl, _, rfl, p, outs, many, rfl, pp, o2, em1, em4, fun v r H9 rv rk k9 p9 => ?_⟩⟩
        have nD := p6.ne hD
        have hd9 := k9 _ _ nD hd
        refine ⟨_, hd9, ?_, vr ++ [v], rs ++ [r], by simp [lr], fun z hz => ?_, paired_app (rwA_all (tups_at hd9) (rwA_all (pp.tups k9) pr)) (.cons (rv.keep (tups_at hd9)) .nil), upd_same, kp_at (kk.trans k9) hD, pot_at p9 nD⟩
        · rw [paired_len2 pr]
          exact Nat.lt_of_lt_of_le (show rs.length < 100000 by omega) (by decide)
        · rcases List.mem_append.mp hz with hz | hz
          · exact rok z hz
          · rw [List.mem_singleton.mp hz]; exact rk
      · rintro H7 ⟨vr, rs, lr, rok, pr, hd, kk, pp⟩
        refine ⟨sz rfl, fun T9 hT9 => ?_⟩
        have k9 := same_new hT9 (.tup [.str rd.s, .ref D])
        have nD := p6.ne hD
        have DA : D ∉ L :: A := new_nin nn6 hD
        have hL9 := k9 _ _ (kk _ _ nL hL6)
        have lrs : rs.length = rd.many := by rw [← rd_many]; omega
        refine ⟨_, _, _, rfl, rfl, hL9, by rw [lw]; exact Nat.lt_of_lt_of_le (show sg.length < 100000 by omega) (by decide), ?_⟩
        have kl9 : KL (L :: A) H7 (upd (upd H7 T9 (.tup [.str rd.s, .ref D])) L (.lst (ws ++ [.ref T9]))) := (KL.of k9).trans (KL.at hL9 lLA)
        have kl69 := ((kl_kp po k6 pLA).trans (kl_kp p6 kk pLA)).trans kl9
        refine ⟨_, _, ws ++ [.ref T9], sg ++ [⟨rd, rs⟩], rfl, by simp [ls], fun z hz => ?_, paired_app (toldX_all kl69 pw) (.cons ⟨T9, D, vr, rfl, ?_, DA, kl9.lst DA hd, rwA_all kl9.tups pr⟩ .nil), upd_same, kp_at ((kp.trans (k6.trans kk)).trans (Kp.of k9)) hL, pot_at (pp.same k9) nL, upd_nn (same_nn k9 (kp_nn pp kk nn6))⟩
        · rcases List.mem_append.mp hz with hz | hz
          · exact sok z hz
          · rw [List.mem_singleton.mp hz]
            exact ⟨hrd, lrs, rok⟩
        · rw [upd_ne (ne_of_none (kk _ _ nL hL6) hT9).symm]
          exact upd_same
  · rintro τ H6 ⟨a, b, ws, sg, rfl, ls, sok, pw, hLw, kp, po, nn⟩
    refine ⟨_, rfl, _, rfl, _, rfl, sz rfl, fun a9 ha9 => ?_⟩
    have k9 := same_new ha9 (.tup [.int (ins : Nat), .int (outs : Nat), .ref L])
    have lsg : sg.length = many := by omega
    refine q (.ref a9) ⟨ins, outs, sg⟩ _ ⟨a9, L, ws, rfl, upd_same, LA, k9 _ _ hLw, toldX_sub (fun x hx => List.mem_cons_of_mem _ hx) (toldX_all (KL.of k9) pw)⟩ ⟨i1, i2, o1, o2, by show 1 ≤ sg.length; omega, by show sg.length ≤ 4; omega, fun s hs => by show s.ok ins outs sg.length; rw [lsg]; exact sok s hs⟩ rfl rfl ((k1.trans kp).trans (Kp.of k9)) (po.same k9)
end
end FY


set_option Elab.async false
set_option linter.all false
set_option maxRecDepth 100000
set_option maxHeartbeats 4000000
namespace FY
open PySem L2 FYR
/-! ### a statement behind another one, by what holds between them -/
theorem seq_split {t1 t2 : TS} {D : Ends} {σ : St} {H : Hp} (R : St → Hp → Prop) (h1 : ∀ D' : Ends, (∀ σ' H', R σ' H' → D'.nx σ' H') → t1 D' σ H) (h2 : ∀ σ' H', R σ' H' → t2 D σ' H') : tSeq t1 t2 D σ H := h1 _ h2
theorem asg_split {te : TE} {i : Nat} {D : Ends} {σ : St} {H : Hp} (R : V → Hp → Prop) (h1 : ∀ Q : VK, (∀ v H1, R v H1 → Q v H1) → te σ H Q) (h2 : ∀ v H1, R v H1 → D.nx (σ.set i (some v)) H1) : tAsg te (gName i) D σ H := h1 _ h2
/-! ### the plan while it is drawn -/
structure PSt (p F Pp Fr : Addr) (A : List Addr) (H0 H' : Hp) (ts : List Stn) (ps : List Pipe) (fr : List (Nat × Nat)) (j : Nat) : Prop where
  pl : PlM ts ps fr j
  st : ∃ us, H' F = some (.lst us) ∧ Paired (DatA A H') us ts
  pp : ∃ ws, H' Pp = some (.lst ws) ∧ Paired (PipeA H') ws ps
  fr : ∃ fs, H' Fr = some (.lst fs) ∧ Paired (PrA H') fs fr
  kp : Kp p H0 H'
  po : Pot p H'
  nn : ∀ a ∈ A, H' a ≠ none
structure PAd (p F Pp Fr : Addr) (A : List Addr) : Prop where
  pA : p ∈ A
  fA : F ∈ A
  qA : Pp ∈ A
  rA : Fr ∈ A
  nF : F ≠ p
  nP : Pp ≠ p
  nR : Fr ≠ p
  nFP : F ≠ Pp
  nFR : F ≠ Fr
  nPR : Pp ≠ Fr
theorem PSt.to {p F Pp Fr : Addr} {A : List Addr} {H0 H' H'' : Hp} {ts : List Stn} {ps : List Pipe} {fr : List (Nat × Nat)} {j : Nat} (h : PSt p F Pp Fr A H0 H' ts ps fr j) (a : PAd p F Pp Fr A) (k : Kp p H' H'') (po : Pot p H'') : PSt p F Pp Fr A H0 H'' ts ps fr j := by
  obtain ⟨us, h1, h2⟩ := h.st
  obtain ⟨ws, h3, h4⟩ := h.pp
  obtain ⟨fs, h5, h6⟩ := h.fr
  have kl := kl_kp h.po k a.pA
  exact ⟨h.pl, ⟨us, k _ _ a.nF h1, dat_all kl h2⟩, ⟨ws, k _ _ a.nP h3, pipe_all kl.tups h4⟩, ⟨fs, k _ _ a.nR h5, pr_all kl.tups h6⟩, h.kp.trans k, po, kp_nn po k h.nn⟩
theorem PSt.same {p F Pp Fr : Addr} {A : List Addr} {H0 H' H'' : Hp} {ts : List Stn} {ps : List Pipe} {fr : List (Nat × Nat)} {j : Nat} (h : PSt p F Pp Fr A H0 H' ts ps fr j) (a : PAd p F Pp Fr A) (k : Same H' H'') : PSt p F Pp Fr A H0 H'' ts ps fr j := h.to a (Kp.of k) (h.po.same k)
theorem paired_erase {α β : Type} {R : α → β → Prop} : ∀ {a : List α} {b : List β}, Paired R a b → ∀ k, Paired R (a.eraseIdx k) (b.eraseIdx k)
  | _, _, .nil, k => .nil
  | _, _, .cons r q, 0 => q
  | _, _, .cons r q, k + 1 => .cons r (paired_erase q k)
theorem sort_pp {K : PySem.W.Frag} {H : Hp} {ws zs : List V} {ps : List Pipe} (pp : Paired (PipeA H) ws ps) (sm : ∀ p ∈ ps, SmP p) (pz : zs.Perm ws) (sz2 : zs.Pairwise fun x y => ∀ n m, TupI K H x n → TupI K H y m → TS.code 128 n ≤ TS.code 128 m) : Paired (PipeA H) zs (srt ps) := by
  obtain ⟨qs, pq, pz3⟩ := paired_perm pz pp
  have eq : qs = srt ps := srt_eq sm pq (paired_pw (fun x y a b ra rb sxy => by
    obtain ⟨ta, rfl, hta⟩ := ra
    obtain ⟨tb, rfl, htb⟩ := rb
    exact sxy [(a.1 : Int), (a.2.1 : Int), (a.2.2.1 : Int), (a.2.2.2 : Int)] [(b.1 : Int), (b.2.1 : Int), (b.2.2.1 : Int), (b.2.2.2 : Int)] ⟨ta, rfl, SqT.of hta⟩ ⟨tb, rfl, SqT.of htb⟩) pz3 sz2)
  rw [← eq]
  exact pz3
theorem tupI_pp {K : PySem.W.Frag} {H : Hp} {ws : List V} {ps : List Pipe} (pp : Paired (PipeA H) ws ps) (sm : ∀ p ∈ ps, SmP p) : ∀ x ∈ ws, ∃ ns, TupI K H x ns ∧ ns.length = 4 ∧ TS.Bd 128 ns := fun x hx => by
  obtain ⟨i, hi⟩ := List.mem_iff_getElem?.mp hx
  obtain ⟨pi, hpi, tp, rfl, htp⟩ := paired_get pp hi
  have s := sm pi (List.mem_of_getElem? hpi)
  refine ⟨[(pi.1 : Int), (pi.2.1 : Int), (pi.2.2.1 : Int), (pi.2.2.2 : Int)], ⟨tp, rfl, SqT.of htp⟩, rfl, fun m hm => ?_⟩
  simp only [List.mem_cons, List.not_mem_nil, or_false] at hm
  rcases hm with rfl | rfl | rfl | rfl <;> omega
theorem g7 {x : V} (h : x ∈ [V.str "", V.str "", V.str "", V.str "0", V.str "1", V.str "01", V.str "110"]) : ∃ b : List Bool, x = .str (tx b) ∧ b.length ≤ 3 := by
  simp only [List.mem_cons, List.not_mem_nil, or_false] at h
  rcases h with h | h | h | h | h | h | h
  · exact ⟨[], by rw [h]; exact congrArg V.str (by decide +kernel), by decide⟩
  · exact ⟨[], by rw [h]; exact congrArg V.str (by decide +kernel), by decide⟩
  · exact ⟨[], by rw [h]; exact congrArg V.str (by decide +kernel), by decide⟩
  · exact ⟨[false], by rw [h]; exact congrArg V.str (by decide +kernel), by decide⟩
  · exact ⟨[true], by rw [h]; exact congrArg V.str (by decide +kernel), by decide⟩
  · exact ⟨[false, true], by rw [h]; exact congrArg V.str (by decide +kernel), by decide⟩
  · exact ⟨[true, true, false], by rw [h]; exact congrArg V.str (by decide +kernel), by decide⟩
def PlanA (A : List Addr) (H : Hp) (v : V) (ts : List Stn) (qs : List Pipe) (bg : Bg) : Prop := ∃ m F M d us ws, v = .ref m ∧ H m = some (.dK [(Sum.inr "stations", .ref F), (Sum.inr "pipes", .ref M), (Sum.inr "begin", .ref d)]) ∧ F ∉ A ∧ M ∉ A ∧ H F = some (.lst us) ∧ Paired (DatA A H) us ts ∧ H M = some (.lst ws) ∧ Paired (PipeA H) ws qs ∧ BgG H d bg
def spPlanL : Sp := fun vs H Q _ => ∃ (p : Addr) (many most : Nat), vs = [.ref p, .int (many : Nat), .int (most : Nat)] ∧ Pot p H ∧ 1 ≤ many ∧ many ≤ 12 ∧ 1 ≤ most ∧ most ≤ 4 ∧ ∀ (v : V) (ts : List Stn) (qs : List Pipe) (bg : Bg) (H' : Hp), PlanA [p] H' v ts qs bg → YdOk ts qs → BegOk ts qs.length bg → srt qs = qs → ts.length = many → Kp p H H' → Pot p H' → Q v H'
section
variable {P : Program} {w : World} {K : PySem.W.Frag} {mg : Str → Option Value} {base : Heap} {aS a1 a2 aL aT : Addr} {f : Addr} {fd : FuncData} {C CD CY : Addr} {mc : Value}
abbrev s_law_plan : Stmt := top 75
abbrev N_law_plan : List Str := ["_law_pot_here", "_law_many", "_law_most", "_law_found", "_law_pipes_now", "_law_free", "_law_at", "_law_wide", "_law_line", "_law_outs_now", "_law_texts", "_law_begun_now", "_law_pipe", "_law_unit"]
theorem sc_law_plan : FnScope N_law_plan ["_law_pot_here", "_law_many", "_law_most"] (defScope s_law_plan) := ⟨rfl, rfl, rfl, by decide +kernel, rfl, by decide +kernel, by decide +kernel⟩
theorem ok_law_plan (F : Fun K "_law_plan" "_law_plan" s_law_plan f fd) (T : Txt K mg aS a1 a2) (c__law_draw : C8.Cal P w K mg base 1 "_law_draw" spDraw []) (c__law_pick : C8.Cal P w K mg base 2 "_law_pick" spPick []) (c__law_station : C8.Cal P w K mg base 4 "_law_station" spStationL []) : FnOk P w K mg base CX0 5 f fd ["_law_pot_here", "_law_many", "_law_most"] spPlanL := by
  refine F.ok sc_law_plan (fun vs H Q E h => ?_) (fun cdv A0 outer s H vs Q E hr h => ?_)
  · obtain ⟨p, m, o, rfl, _⟩ := h
    rfl
  obtain ⟨p, many, most, rfl, p0, m1, m2, o1, o4, q⟩ := h
  refine ⟨_, (pss_cons (ps_par3 (i := 3) (j := 4) (l := 5) rfl sc_law_plan.nd rfl rfl rfl (by decide) (by decide) (by decide) rfl rfl rfl (pa_cons (pe_lst pa_nil) (pa_cons (pe_lst pa_nil) (pa_cons (pe_lst pa_nil) pa_nil))) rfl)
        (pss_cons (ps_for PassesOwn.never rfl (pi_range1 rfl T.b_range (pa_cons (pv 1) pa_nil)) (pg_name (i := 6) sc_law_plan.nd rfl (Or.inr rfl))
        (pss_cons (ps_set (i := 7) sc_law_plan.nd rfl (Or.inl rfl) (pe_ifExp (PW.pt (pw_or (pt_cmpR op_lt (pe_callB (kLen K rfl) rfl T.b_len bt_len (pa_cons (pv 5) pa_nil)) pe_int (nomark _)) (pw_or1 (PW.pt (pw_and (pt_cmpR op_eq (pe_callB (kLen K rfl) rfl T.b_len bt_len (pa_cons (pv 5) pa_nil)) pe_int (nomark _)) (pw_and1 (pt_cmpR op_eq (C8.pe_c c__law_draw hr (by decide) rfl (pa_cons (pv 0) (pa_cons pe_int pa_nil))) pe_int (nomark _)))))))) pe_int pe_int))
        (pss_cons (ps_for PassesOwn.never rfl (pi_range1 rfl T.b_range (pa_cons (pe_ifExp (pt_cmpR op_gt (pv 6) pe_int (nomark _)) (pv 7) pe_int) pa_nil)) (pg_name (i := 8) sc_law_plan.nd rfl (Or.inl rfl))
        (pss_one (ps_expr (kBm K rfl PySem.F.plainAttrs_list PySem.F.slot_list_append PySem.F.type_list_append mt_append (pv 4) (pa_cons (pe_op (kCatA K rfl) (kBm K rfl PySem.F.plainAttrs_list PySem.F.slot_list_pop PySem.F.type_list_pop mt_popAt (pv 5) (pa_cons (C8.pe_c c__law_draw hr (by decide) rfl (pa_cons (pv 0) (pa_cons (pe_callB (kLen K rfl) rfl T.b_len bt_len (pa_cons (pv 5) pa_nil)) pa_nil))) pa_nil)) (pe_tup (pa_cons (pv 6) (pa_cons (pv 8) pa_nil)))) pa_nil)))))
        (pss_cons (ps_set (i := 9) sc_law_plan.nd rfl (Or.inl rfl) (pe_op op_add pe_int (pe_ifExp (pt_cmpR op_lt (pe_callB (kLen K rfl) rfl T.b_len bt_len (pa_cons (pv 5) pa_nil)) pe_int (nomark _)) (C8.pe_c c__law_draw hr (by decide) rfl (pa_cons (pv 0) (pa_cons pe_int pa_nil))) pe_int)))
        (pss_cons (ps_expr (kBm K rfl PySem.F.plainAttrs_list PySem.F.slot_list_extend PySem.F.type_list_extend mt_extend (pv 5) (pa_cons (pe_lc (own := [("_law_line", 8)]) rfl sc_law_plan.nd (pi_range1 rfl T.b_range (pa_cons (pv 9) pa_nil)) (blkOk_by (N := N_law_plan) (sc := defScope s_law_plan) (by decide +kernel)) (fun _ _ _ _ _ => (pg_name (i := 8) sc_law_plan.nd rfl (Or.inl rfl))) (fun _ _ _ _ _ => pts_nil) (fun _ _ _ _ _ => (pe_tup (pa_cons (pv 6) (pa_cons (pv 8) pa_nil))))) pa_nil)))
        (pss_one (ps_expr (kBm K rfl PySem.F.plainAttrs_list PySem.F.slot_list_append PySem.F.type_list_append mt_append (pv 3) (pa_cons (C8.pe_c c__law_station hr (by decide) rfl (pa_cons (pv 0) (pa_cons (pv 7) (pa_cons (pv 9) (pa_cons (pv 2) pa_nil))))) pa_nil)))))))))
        (pss_cons (ps_setLc (i := 10) (own := [("_law_pipe", 12)]) rfl sc_law_plan.nd rfl rfl (sw_true rfl rfl rfl (by decide +kernel)) (kList K rfl (pv 4)) (blkOk_by (N := N_law_plan) (sc := defScope s_law_plan) (by decide +kernel)) (fun _ _ _ _ _ => (pg_name (i := 12) sc_law_plan.nd rfl (Or.inl rfl))) (fun _ _ _ _ _ => pts_nil) (fun _ _ _ _ _ => (C8.pe_c c__law_pick hr (by decide) rfl (pa_cons (pv 0) (pa_cons (pe_lst (pa_cons pe_str (pa_cons pe_str (pa_cons pe_str (pa_cons pe_str (pa_cons pe_str (pa_cons pe_str (pa_cons pe_str pa_nil)))))))) pa_nil)))))
        (pss_cons (ps_set (i := 11) sc_law_plan.nd rfl (Or.inl rfl) (pe_tup (pa_cons (pe_callTy (kTupOf K rfl) rfl T.b_tuple bt_tuple (pa_cons (pe_lc (own := [("_law_unit", 13)]) rfl sc_law_plan.nd (kList K rfl (pv 3)) (blkOk_by (N := N_law_plan) (sc := defScope s_law_plan) (by decide +kernel)) (fun _ _ _ _ _ => (pg_name (i := 13) sc_law_plan.nd rfl (Or.inl rfl))) (fun _ _ _ _ _ => pts_nil) (fun _ _ _ _ _ => (C8.pe_c c__law_draw hr (by decide) rfl (pa_cons (pv 0) (pa_cons (pe_callB (kLen K rfl) rfl T.b_len bt_len (pa_cons (pe_ix (kIxT K rfl) (pv 13) pe_int (fun _ _ => rfl)) pa_nil)) pa_nil))))) pa_nil)) (pa_cons (pe_callTy (kTupOf K rfl) rfl T.b_tuple bt_tuple (pa_cons (pv 10) pa_nil)) pa_nil))))
        (pss_one (ps_ret (pe_disp (pps_cons pe_str (pv 3) (pps_cons pe_str (pe_callB (kSortT K (d := 4) (B := 128) rfl (by decide)) rfl T.b_sorted bt_sorted (pa_cons (pv 4) pa_nil)) (pps_cons pe_str (pv 11) pps_nil))) rfl rfl (by decide) (by decide)))))))), ?_⟩
  refine ⟨sz rfl, fun Lf hF => ⟨sz rfl, fun Pp hP => ⟨sz rfl, fun Fr hFr => ⟨_, _, _, rfl, ?_⟩⟩⟩⟩
  have kF := same_new hF (.lst [])
  have kP := same_new hP (.lst [])
  have kR := same_new hFr (.lst [])
  have kPR := kP.trans' kR
  have hP0 : H Pp = none := none_of kF hP
  have hFr0 : H Fr = none := none_of (kF.trans' kP) hFr
  have kA := kF.trans' kPR
  have pad : PAd p Lf Pp Fr [Lf, Pp, Fr, p] := ⟨by simp, by simp, by simp, by simp, p0.ne hF, (p0.same kF).ne hP, (p0.same (kF.trans' kP)).ne hFr, ne_of_none upd_same hP, ne_of_none (kP _ _ upd_same) hFr, ne_of_none upd_same hFr⟩
  have st0 : PSt p Lf Pp Fr [Lf, Pp, Fr, p] H (upd (upd (upd H Lf (.lst [])) Pp (.lst [])) Fr (.lst [])) [] [] [] 0 := by
    refine ⟨PlM.start, ⟨[], kPR _ _ upd_same, .nil⟩, ⟨[], kR _ _ upd_same, .nil⟩, ⟨[], upd_same, .nil⟩, Kp.of kA, p0.same kA, fun a ha => ?_⟩
    simp only [List.mem_cons, List.not_mem_nil, or_false] at ha
    rcases ha with rfl | rfl | rfl | rfl
    · rw [kPR _ _ upd_same]; simp
    · rw [kR _ _ upd_same]; simp
    · rw [upd_same]; simp
    · obtain ⟨x, y, e, _⟩ := p0.same kA
      rw [e]; simp
  generalize upd (upd (upd H Lf (.lst [])) Pp (.lst [])) Fr (.lst []) = HA at *
  generalize hA : ([Lf, Pp, Fr, p] : List Addr) = A at *
  refine ⟨_, rfl, many, rfl, by omega, by omega, for_it walk_range (fun i τ H' => ∃ (a b c d : Option V) (ts : List Stn) (ps : List Pipe) (fr : List (Nat × Nat)), τ = [some (.ref p), some (.int (many : Nat)), some (.int (most : Nat)), some (.ref Lf), some (.ref Pp), some (.ref Fr), a, b, c, d, none, none, none, none] ∧ PSt p Lf Pp Fr A H H' ts ps fr 0 ∧ ts.length = i ∧ fr.length ≤ 3 ∧ (1 ≤ i → 1 ≤ fr.length)) ⟨_, _, _, _, [], [], [], rfl, st0, rfl, by simp, by simp⟩ (fun _ _ _ _ _ => trivial) ?_ ?_⟩
  · rintro i x τ G1 G2 hi ⟨a, b, c, d, ts, ps, fr, rfl, st, lts, lf, lf1⟩ ⟨rfl, hx⟩
    have hx : x = .int (i : Int) := by rw [hx]; exact congrArg V.int (Int.zero_add _)
    subst hx
    -- wide
    refine seq_split (fun σ' H' => ∃ wd : Nat, σ' = [some (.ref p), some (.int (many : Nat)), some (.int (most : Nat)), some (.ref Lf), some (.ref Pp), some (.ref Fr), some (.int (i : Nat)), some (.int (wd : Nat)), c, d, none, none, none, none] ∧ PSt p Lf Pp Fr A H H' ts ps fr 0 ∧ (wd = 1 ∨ (wd = 2 ∧ 2 ≤ fr.length))) (fun D' hD => ?_) ?_
    · obtain ⟨fs, hfs, pfs⟩ := st.fr
      have lfs := paired_len2 pfs
      have fin : ∀ (wd : Nat) (H' : Hp), PSt p Lf Pp Fr A H H' ts ps fr 0 → (wd = 1 ∨ (wd = 2 ∧ 2 ≤ fr.length)) → D'.nx [some (.ref p), some (.int (many : Nat)), some (.int (most : Nat)), some (.ref Lf), some (.ref Pp), some (.ref Fr), some (.int (i : Nat)), some (.int (wd : Nat)), c, d, none, none, none, none] H' := fun wd H' s' hw => hD _ _ ⟨wd, rfl, s', hw⟩
      refine ⟨_, rfl, _, _, rfl, .inl (SqL.of hfs), _, _, rfl, rfl, _, rfl, ?_⟩
      by_cases z : fr.length < 2
      · exact iteTd (by simp; omega) (iteT (fin 1 _ st (.inl rfl)))
      · refine iteFd (by simp; omega) ⟨_, rfl, _, _, rfl, .inl (SqL.of hfs), rfl, _, rfl, ?_⟩
        by_cases z2 : fr.length = 2
        · refine iteTd (by rw [dec_int]; exact decide_eq_true (by omega)) ⟨_, rfl, p, _, rfl, st.po, by decide, by decide, fun d2 H2 d20 d21 k2 p2 => ⟨rfl, _, rfl, ?_⟩⟩
          by_cases z3 : d2 = 0
          · exact iteTd (by rw [dec_int]; exact decide_eq_true z3) (fin 1 _ (st.to pad k2 p2) (.inl rfl))
          · exact iteFd (by rw [dec_int]; exact decide_eq_false z3) (fin 2 _ (st.to pad k2 p2) (.inr ⟨rfl, by omega⟩))
        · exact iteFd (by rw [dec_int]; exact decide_eq_false (by omega)) (iteF (fin 2 _ st (.inr ⟨rfl, by omega⟩)))
    rintro σ1 H1 ⟨wd, rfl, st1, hw⟩
    -- the pipes
    refine seq_split (fun σ' H' => ∃ (c : Option V) (ps' : List Pipe) (fr' : List (Nat × Nat)), σ' = [some (.ref p), some (.int (many : Nat)), some (.int (most : Nat)), some (.ref Lf), some (.ref Pp), some (.ref Fr), some (.int (i : Nat)), some (.int (wd : Nat)), c, d, none, none, none, none] ∧ PSt p Lf Pp Fr A H H' ts ps' fr' (if ts.length = 0 then 0 else wd) ∧ fr'.length + (if ts.length = 0 then 0 else wd) = fr.length) (fun D' hD => ?_) ?_
    · refine ⟨_, rfl, _, _, rfl, rfl, _, rfl, ?_⟩
      by_cases z : ts.length = 0
      · refine iteFd (by simp; omega) ⟨0, rfl, by decide, by decide, for_it walk_range (fun j τ H' => τ = [some (.ref p), some (.int (many : Nat)), some (.int (most : Nat)), some (.ref Lf), some (.ref Pp), some (.ref Fr), some (.int (i : Nat)), some (.int (wd : Nat)), c, d, none, none, none, none] ∧ H' = H1) ⟨rfl, rfl⟩ (fun _ _ _ _ _ => trivial) (fun j x τ G H' hj => absurd hj (Nat.not_lt_zero _)) ?_⟩
        rintro τ H' ⟨rfl, rfl⟩
        exact hD _ _ ⟨_, ps, fr, rfl, by rw [if_pos z]; exact st1, by rw [if_pos z]; rfl⟩
      · refine iteTd (by simp; omega) ⟨_, rfl, wd, rfl, by omega, by omega, for_it walk_range (fun j τ H' => ∃ (c : Option V) (ps' : List Pipe) (fr' : List (Nat × Nat)), τ = [some (.ref p), some (.int (many : Nat)), some (.int (most : Nat)), some (.ref Lf), some (.ref Pp), some (.ref Fr), some (.int (i : Nat)), some (.int (wd : Nat)), c, d, none, none, none, none] ∧ PSt p Lf Pp Fr A H H' ts ps' fr' j ∧ fr'.length + j = fr.length) ⟨_, ps, fr, rfl, st1, rfl⟩ (fun _ _ _ _ _ => trivial) ?_ ?_⟩
        · rintro j x τ G3 G4 hj ⟨c3, ps3, fr3, rfl, s3, l3⟩ ⟨rfl, hx⟩
          have hx : x = .int (j : Int) := by rw [hx]; exact congrArg V.int (Int.zero_add _)
          subst hx
          have hj' : j < wd := by omega
          have lf3 : 1 ≤ fr3.length := by have := lf1 (by omega); omega
          obtain ⟨ws, hws, pws⟩ := s3.pp
          obtain ⟨fs, hfs, pfs⟩ := s3.fr
          have lfs := paired_len2 pfs
          refine ⟨_, rfl, .inl ⟨rfl, _, SqL.of hws⟩, _, rfl, .inl ⟨rfl, _, SqL.of hfs⟩, _, rfl, _, rfl, _, _, rfl, .inl (SqL.of hfs), p, _, rfl, s3.po, by omega, by omega, fun d4 H4 d40 d41 k4 p4 => ?_⟩
          have s4 := s3.to pad k4 p4
          have hk : d4.toNat < fs.length := by omega
          obtain ⟨l, hl, t4, et4, ht4⟩ := paired_get pfs (List.getElem?_eq_getElem hk)
          refine ⟨Fr, fs, d4, d4.toNat, fs[d4.toNat], rfl, rfl, k4 _ _ pad.nR hfs, by omega, by omega, ?_, List.getElem?_eq_getElem hk, ?_⟩
          · unfold seqIndex?
            have : ¬ d4 < 0 := by omega
            simp [this]
            omega
          have hfs4 := k4 _ _ pad.nR hfs
          have kl5 : KL A H4 (upd H4 Fr (.lst (fs.eraseIdx d4.toNat))) := KL.at hfs4 pad.rA
          rw [et4]
          refine ⟨_, rfl, _, rfl, sz rfl, fun t5 ht5 => ?_⟩
          have k6 := same_new ht5 (.tup [.int (i : Nat), .int (j : Nat)])
          have ht4' := k6 _ _ (kl5.tups _ _ ((kl_kp s3.po k4 pad.pA).tups _ _ ht4))
          refine catA_of ht4' upd_same (by simp) fun H7 t7 s7 ht7 => ?_
          have k67 := k6.trans' s7
          have hws7 : H7 Pp = some (.lst ws) := k67 _ _ ((upd_ne pad.nPR).trans (k4 _ _ pad.nP hws))
          have lws := paired_len2 pws
          have cn := s3.pl.cnt
          have il := ins_le s3.pl.okk
          refine ⟨_, _, _, rfl, rfl, hws7, by rw [lws]; exact Nat.lt_of_lt_of_le (show ps3.length < 100000 by omega) (by decide), ?_⟩
          have kl8 : KL A H7 (upd H7 Pp (.lst (ws ++ [.ref t7]))) := KL.at hws7 pad.qA
          have kl48 := (kl5.trans (KL.of k67)).trans kl8
          have kl38 := (kl_kp s3.po k4 pad.pA).trans kl48
          have hlk : fr3[d4.toNat]? = some l := hl
          obtain ⟨us, hus, pus⟩ := s3.st
          refine ⟨_, ps3 ++ [(l.1, l.2, ts.length, j)], fr3.eraseIdx d4.toNat, rfl, ⟨s3.pl.pop hlk, ⟨us, ?_, dat_all kl38 pus⟩, ⟨ws ++ [.ref t7], upd_same, paired_app (pipe_all kl38.tups pws) (.cons ⟨t7, rfl, ?_⟩ .nil)⟩, ⟨fs.eraseIdx d4.toNat, ?_, paired_erase (pr_all kl38.tups pfs) _⟩, ?_, ?_, ?_⟩, ?_⟩
          · exact (upd_ne pad.nFP).trans (k67 _ _ ((upd_ne pad.nFR).trans (k4 _ _ pad.nF hus)))
          · rw [lts]
            exact kl8.tups _ _ ht7
          · exact (upd_ne pad.nPR.symm).trans (k67 _ _ upd_same)
          · exact kp_at ((kp_at s4.kp hFr0).trans (Kp.of k67)) hP0
          · exact pot_at ((pot_at p4 pad.nR).same k67) pad.nP
          · exact upd_nn (same_nn k67 (upd_nn s4.nn))
          · have := lt_len hlk
            rw [List.length_eraseIdx_of_lt this]
            omega
        · rintro τ H' ⟨c3, ps3, fr3, rfl, s3, l3⟩
          exact hD _ _ ⟨_, ps3, fr3, rfl, by rw [if_neg z]; exact s3, by rw [if_neg z]; exact l3⟩
    rintro σ2 H2 ⟨c2, ps2, fr2, rfl, st2, l2⟩
    have wd2 : 1 ≤ wd ∧ wd ≤ 2 := by omega
    have lfr2 : fr2.length ≤ 2 := by
      by_cases z : ts.length = 0
      · have := st.pl.beg.length_eq
        rw [if_pos z] at l2
        have e : ts = [] := List.eq_nil_of_length_eq_zero z
        subst e
        simp only [linesFrom, List.length_append, List.length_map, List.length_nil] at this
        omega
      · rw [if_neg z] at l2
        omega
    -- outs_now
    refine seq_split (fun σ' H' => ∃ oo : Nat, σ' = [some (.ref p), some (.int (many : Nat)), some (.int (most : Nat)), some (.ref Lf), some (.ref Pp), some (.ref Fr), some (.int (i : Nat)), some (.int (wd : Nat)), c2, some (.int (oo : Nat)), none, none, none, none] ∧ PSt p Lf Pp Fr A H H' ts ps2 fr2 (if ts.length = 0 then 0 else wd) ∧ 1 ≤ oo ∧ oo ≤ 2 ∧ fr2.length + oo ≤ 3) (fun D' hD => ?_) ?_
    · obtain ⟨fs, hfs, pfs⟩ := st2.fr
      have lfs := paired_len2 pfs
      refine ⟨_, rfl, _, _, rfl, .inl (SqL.of hfs), _, _, rfl, rfl, _, rfl, ?_⟩
      by_cases z : fr2.length < 2
      · refine iteTd (by simp; omega) ⟨_, rfl, p, _, rfl, st2.po, by decide, by decide, fun d2 H3 d20 d21 k3 p3 => ⟨_, _, rfl, rfl, ?_⟩⟩
        refine hD _ _ ⟨(1 + d2).toNat, ?_, st2.to pad k3 p3, by omega, by omega, by omega⟩
        rw [show (((1 + d2).toNat : Nat) : Int) = 1 + d2 from Int.toNat_of_nonneg (by omega)]
        rfl
      · exact iteFd (by simp; omega) ⟨_, _, rfl, rfl, hD _ _ ⟨1, rfl, st2, by decide, by decide, by omega⟩⟩
    rintro σ3 H3 ⟨oo, rfl, st3, oo1, oo2, lo⟩
    -- free.extend
    refine seq_split (fun σ' H' => σ' = [some (.ref p), some (.int (many : Nat)), some (.int (most : Nat)), some (.ref Lf), some (.ref Pp), some (.ref Fr), some (.int (i : Nat)), some (.int (wd : Nat)), c2, some (.int (oo : Nat)), none, none, none, none] ∧ ∃ (Hm : Hp) (fs0 fs : List V), PSt p Lf Pp Fr A H Hm ts ps2 fr2 (if ts.length = 0 then 0 else wd) ∧ Hm Fr = some (.lst fs0) ∧ H' = upd Hm Fr (.lst fs) ∧ Paired (PrA H') fs (fr2 ++ (List.range oo).map fun k => (ts.length, k))) (fun D' hD => ?_) ?_
    · obtain ⟨fs, hfs, pfs⟩ := st3.fr
      have lfs := paired_len2 pfs
      refine ⟨_, rfl, .inl ⟨rfl, _, SqL.of hfs⟩, _, rfl, oo, rfl, by omega, by omega, fun D hDn => lc_it walk_range (fun j H' => Same H3 H' ∧ ∃ xs, H' D = some (.lst xs) ∧ Paired (PrA H') xs ((List.range j).map fun k => (ts.length, k))) ⟨same_new hDn _, [], upd_same, .nil⟩ (fun _ _ _ _ => trivial) ?_ ?_⟩
      · rintro j x G1 G2 hj ⟨sm, xs, hd, px⟩ ⟨rfl, hx⟩
        have hx : x = .int (j : Int) := by rw [hx]; exact congrArg V.int (Int.zero_add _)
        subst hx
        have lx := paired_len2 px
        rw [List.length_map, List.length_range] at lx
        refine ⟨rfl, tyI ⟨_, rfl, _, rfl, sz rfl, fun t ht => ?_⟩⟩
        have k1 := same_new ht (.tup [.int (i : Nat), .int (j : Nat)])
        have hd1 := k1 _ _ hd
        refine ⟨_, hd1, Nat.lt_of_lt_of_le (show xs.length < 100000 by omega) (by decide), same_at (sm.trans' k1) hDn, xs ++ [.ref t], upd_same, ?_⟩
        rw [List.range_succ, List.map_append]
        refine paired_app (pr_all ((Tups.of k1).trans (tups_at hd1)) px) (.cons ⟨t, rfl, ?_⟩ .nil)
        rw [lts]
        exact tups_at hd1 _ _ upd_same
      · rintro H' ⟨sm, xs, hd, px⟩
        have lx := paired_len2 px
        rw [List.length_map, List.length_range] at lx
        have hf' := sm _ _ hfs
        refine ⟨Fr, D, fs, xs, rfl, rfl, hf', hd, Nat.le_trans (show fs.length + xs.length ≤ 100 by omega) (by decide), hD _ _ ⟨rfl, H', fs, fs ++ xs, st3.same pad sm, hf', rfl, ?_⟩⟩
        exact paired_app (pr_all ((Tups.of sm).trans (tups_at hf')) pfs) (pr_all (tups_at hf') px)
    rintro σ4 H4 ⟨rfl, Hm, fs0, fs4, st4, hfs0, hH4, pfs4⟩
    -- the station
    have hfs4 : H4 Fr = some (.lst fs4) := by rw [hH4]; exact upd_same
    have kl4 : KL A Hm H4 := by rw [hH4]; exact KL.at hfs0 pad.rA
    have po4 : Pot p H4 := by rw [hH4]; exact pot_at st4.po pad.nR
    have nn4 : ∀ a ∈ A, H4 a ≠ none := by rw [hH4]; exact upd_nn st4.nn
    have kp4 : Kp p H H4 := by rw [hH4]; exact kp_at st4.kp hFr0
    obtain ⟨us, hus, pus⟩ := st4.st
    obtain ⟨ws, hws, pws⟩ := st4.pp
    have hus4 : H4 Lf = some (.lst us) := by rw [hH4]; exact (upd_ne pad.nFR).trans hus
    have hws4 : H4 Pp = some (.lst ws) := by rw [hH4]; exact (upd_ne pad.nPR).trans hws
    have lus := paired_len2 pus
    refine ⟨_, rfl, .inl ⟨rfl, _, SqL.of hus4⟩, _, rfl, _, rfl, _, rfl, _, rfl, p, wd, oo, most, A, rfl, po4, pad.pA, nn4, by omega, by omega, by omega, by omega, by omega, by omega, fun v t H5 dat tok ti to k5 p5 => ?_⟩
    have kl5 := kl_kp po4 k5 pad.pA
    have hus5 := k5 _ _ pad.nF hus4
    have hws5 := k5 _ _ pad.nP hws4
    have hfs5 := k5 _ _ pad.nR hfs4
    refine ⟨_, _, _, rfl, rfl, hus5, by rw [lus]; exact Nat.lt_of_lt_of_le (show ts.length < 100000 by omega) (by decide), ?_⟩
    have kl6 : KL A H5 (upd H5 Lf (.lst (us ++ [v]))) := KL.at hus5 pad.fA
    have klm := (kl4.trans kl5).trans kl6
    have z0 : ts.length = 0 → wd = 1 := fun z => by
      have := st.pl.beg.length_eq
      have e : ts = [] := List.eq_nil_of_length_eq_zero z
      subst e
      simp only [linesFrom, List.length_append, List.length_map, List.length_nil] at this
      omega
    have cl := st4.pl.close tok (by rw [ti]; by_cases z : ts.length = 0
                                    · rw [if_pos z, z0 z]
                                    · rw [if_neg z, if_neg z]) (fun z => if_pos z)
    rw [to] at cl
    refine ⟨_, _, _, _, ts ++ [t], ps2, _, rfl, ⟨cl, ⟨_, upd_same, paired_app (dat_all klm pus) (.cons (dat.kl kl6) .nil)⟩, ⟨ws, (upd_ne pad.nFP.symm).trans hws5, pipe_all klm.tups pws⟩, ⟨fs4, (upd_ne pad.nFR.symm).trans hfs5, pr_all (kl5.trans kl6).tups pfs4⟩, kp_at (kp4.trans k5) hF, pot_at p5 pad.nF, upd_nn (kp_nn p5 k5 nn4)⟩, by simp [lts], ?_, fun _ => ?_⟩
    · simp only [List.length_append, List.length_map, List.length_range]
      omega
    · simp only [List.length_append, List.length_map, List.length_range]
      omega
  · rintro τ Hn ⟨a, b, c, d, ts, ps, fr, rfl, st, lts, lf, lf1⟩
    obtain ⟨us, hus, pus⟩ := st.st
    obtain ⟨ws, hws, pws⟩ := st.pp
    have lus := paired_len2 pus
    have lws := paired_len2 pws
    have yd : YdOk ts (srt ps) := st.pl.yd (by omega) (by omega) lf
    have lsr : (srt ps).length = ps.length := (srt_perm ps).length_eq
    have mp := yd.mp
    have smP : ∀ p ∈ ps, SmP p := fun p hp => ppok_le (yd.pp p ((srt_perm ps).mem_iff.mpr hp)) (by omega)
    -- the texts
    refine ⟨_, rfl, _, rfl, ⟨_, SqL.of hws⟩, fun D hD => lc_it walk_list (fun i H' => ∃ bs : List (List Bool), bs.length = i ∧ (∀ b ∈ bs, b.length ≤ 3) ∧ H' D = some (.lst (tV bs)) ∧ Kp p Hn H' ∧ Pot p H') ⟨[], rfl, by simp, upd_same, kp_new hD _, st.po.same (same_new hD _)⟩ (fun i H' _ z => by obtain ⟨_, _, _, _, z, _⟩ := z; exact SqL.of (z _ _ pad.nP hws)) ?_ ?_⟩
    · rintro i x H6 H7 hi ⟨bs, hbs, h2, hd, kk, pp⟩ ⟨rfl, hx⟩
      refine ⟨rfl, tyI ⟨_, rfl, sz rfl, fun L hL => ⟨p, L, _, rfl, pp.same (same_new hL _), pp.ne hL, upd_same, by decide, by decide, fun y H8 hy k8 p8 => ?_⟩⟩⟩
      obtain ⟨b, rfl, hb⟩ := g7 hy
      refine ⟨_, k8 _ _ (st.po.ne hD) (same_new hL _ _ _ hd), ?_, bs ++ [b], by simp [hbs], fun z hz => ?_, by rw [upd_same]; unfold tV; simp, kp_at (kk.trans ((kp_new hL _).trans k8)) hD, pot_at p8 (st.po.ne hD)⟩
      · rw [tV_len]
        exact Nat.lt_of_lt_of_le (show bs.length < 100000 by omega) (by decide)
      · rcases List.mem_append.mp hz with hz | hz
        · exact h2 z hz
        · rw [List.mem_singleton.mp hz]; exact hb
    rintro H6 ⟨bs, hbs, h2, hd, kk, pp⟩
    have st6 := st.to pad kk pp
    -- the begin
    have hus6 := kk _ _ pad.nF hus
    refine ⟨_, rfl, _, rfl, ⟨_, SqL.of hus6⟩, fun D2 hD2 => lc_it walk_list (fun i H' => ∃ ns : List Nat, ns.length = i ∧ (∀ (s : Nat) (t : Stn) (g : Nat), ts[s]? = some t → ns[s]? = some g → g < t.stgs.length) ∧ H' D2 = some (.lst (nV ns)) ∧ Kp p H6 H' ∧ Pot p H') ⟨[], rfl, by simp, upd_same, kp_new hD2 _, pp.same (same_new hD2 _)⟩ (fun i H' _ z => by obtain ⟨_, _, _, _, z, _⟩ := z; exact SqL.of (z _ _ pad.nF hus6)) ?_ ?_⟩
    · rintro i x H7 H8 hi ⟨ns, hns, gs, hd2, k7, p7⟩ ⟨rfl, hx⟩
      obtain ⟨t, ht, dt⟩ := paired_get pus hx
      have dt7 := (dt.kl (kl_kp st.po kk pad.pA)).kl (kl_kp pp k7 pad.pA)
      obtain ⟨ta, L, rs, rfl, hta, nL, hL, pr⟩ := dt7
      have lr := paired_len2 pr
      have tok := yd.ok t (List.mem_of_getElem? ht)
      have m1' := tok.m1
      have m2' := tok.m2
      refine ⟨rfl, tyI ⟨_, rfl, _, rfl, _, _, _, _, rfl, rfl, SqT.of hta, rfl, _, _, rfl, .inl (SqL.of hL), p, _, rfl, p7, by omega, by omega, fun e H9 e0 e1 k9 p9 => ?_⟩⟩
      have ee : e = ((e.toNat : Nat) : Int) := (Int.toNat_of_nonneg e0).symm
      refine ⟨_, k9 _ _ (pp.ne hD2) hd2, ?_, ns ++ [e.toNat], by simp [hns], fun s u g hs hg => ?_, ?_, kp_at (k7.trans k9) hD2, pot_at p9 (pp.ne hD2)⟩
      · unfold nV
        rw [List.length_map]
        exact Nat.lt_of_lt_of_le (show ns.length < 100000 by omega) (by decide)
      · by_cases z : s < ns.length
        · rw [List.getElem?_append_left z] at hg
          exact gs s u g hs hg
        · rw [List.getElem?_append_right (by omega)] at hg
          have zs : s = i := by
            have := lt_len hg
            simp only [List.length_singleton] at this
            omega
          subst zs
          rw [ht] at hs
          cases Option.some.inj hs
          rw [hns, Nat.sub_self] at hg
          cases Option.some.inj hg
          omega
      · rw [upd_same]
        unfold nV
        rw [List.map_append, List.map_singleton, ← ee]
    rintro H7 ⟨ns, hns, gs, hd2, k7, p7⟩
    have st7 := st6.to pad k7 p7
    have hd7 := k7 _ _ (st.po.ne hD) hd
    have hus7 := k7 _ _ pad.nF hus6
    have hws7 := k7 _ _ pad.nP (kk _ _ pad.nP hws)
    have kl7 := (kl_kp st.po kk pad.pA).trans (kl_kp pp k7 pad.pA)
    refine ⟨_, _, rfl, .inl ⟨SqL.of hd2, fun g1 hg1 => ?_⟩⟩
    have s1 := same_new hg1 (.tup (nV ns))
    refine ⟨_, rfl, _, _, rfl, .inl ⟨SqL.of (s1 _ _ hd7), fun g2 hg2 => ?_⟩⟩
    have s2 := same_new hg2 (.tup (tV bs))
    refine ⟨sz rfl, fun g3 hg3 => ?_⟩
    have s3 := same_new hg3 (.tup [.ref g1, .ref g2])
    have s13 := (s1.trans' s2).trans' s3
    obtain ⟨G3, hG3⟩ : ∃ G3, G3 = upd (upd (upd H7 g1 (.tup (nV ns))) g2 (.tup (tV bs))) g3 (.tup [.ref g1, .ref g2]) := ⟨_, rfl⟩
    have bgg : BgG G3 g3 (ns, bs) := by rw [hG3]; exact ⟨g1, g2, upd_same, s3 _ _ (s2 _ _ upd_same), s3 _ _ upd_same⟩
    rw [← hG3] at s13 ⊢
    clear hG3
    intro m hm
    have sm := same_new hm (.dK [])
    have s1m := s13.trans' sm
    have kl3 := kl7.trans (KL.of s1m)
    have pws3 := pipe_all kl3.tups pws
    refine ⟨_, rfl, _, rfl, Pp, ws, rfl, SqL.of (s1m _ _ hws7), by omega, tupI_pp pws3 smP, fun zs p2 pz sz2 hp2 => ?_⟩
    have s4 := same_new hp2 (.lst zs)
    have pzs := sort_pp pws3 smP pz sz2
    refine ⟨_, rfl, s4 _ _ upd_same, [(Sum.inr "stations", .ref Lf), (Sum.inr "pipes", .ref p2), (Sum.inr "begin", .ref g3)], rfl, (by decide : 3 ≤ 15), ?_⟩
    have s5 := s1m.trans' s4
    have hm5 := s4 _ _ (upd_same (H := G3) (a := m) (o := .dK []))
    have bg5 : BgG (upd (upd G3 m (.dK [])) p2 (.lst zs)) g3 (ns, bs) := bgg.keep (Tups.of (sm.trans' s4))
    have s5' := same_at (sm.trans' s4) (o := .dK (mergeK [] [(Sum.inr "stations", .ref Lf), (Sum.inr "pipes", .ref p2), (Sum.inr "begin", .ref g3)])) hm
    have s6 := s13.trans' s5'
    have n2 : p2 ≠ m := fun z => by rw [z, upd_same] at hp2; cases hp2
    have lbs : bs.length = (srt ps).length := by rw [hbs, lsr, lws]
    refine q (.ref m) ts (srt ps) (ns, bs) _ ⟨m, Lf, p2, g3, us, zs, rfl, upd_same, ?_, ?_, s6 _ _ hus7, dat_sub (A := A) ?_ (dat_all (kl7.trans (KL.of s6)) pus), (upd_ne n2).trans upd_same, pipe_all ((Tups.of s4).trans (fun b xs e => (upd_ne (fun z => by rw [z, hm5] at e; cases e)).trans e)) pzs, bgg.keep (Tups.of s5')⟩ yd ⟨hns.trans lus, lbs, gs, h2⟩ (srt_srt smP) lts (((st.kp.trans kk).trans k7).trans (Kp.of s6)) (p7.same s6)
    · rw [List.mem_singleton]; exact pad.nF
    · rw [List.mem_singleton]
      exact fun z => by subst z; exact (p7.same s1m).ne hp2 rfl
    · intro x hx
      rw [List.mem_singleton.mp hx]; exact pad.pA
end
end FY


set_option Elab.async false
set_option linter.all false
set_option maxRecDepth 100000
set_option maxHeartbeats 4000000
namespace FY
open PySem L2 FYR
/-! ## the yard of a plan, its wires -/
theorem mk_same {C x dx : Addr} {H : Hp} (hx : H x = none) (hdx : H dx = none) : Same H (upd (upd H dx (.own x)) x (.ins C dx [])) := fun b o e => by
  rw [upd_ne (ne_of_none e hx), upd_ne (ne_of_none e hdx)]
  exact e
theorem mk_after {x : Addr} {H H1 H2 : Hp} (hx : H x = none) (m : Same H H1) (k : ∀ b o, b ≠ x → H1 b = some o → H2 b = some o) : Same H H2 := fun b o e => k b o (ne_of_none e hx) (m _ _ e)
theorem PlanA.kl {A : List Addr} {H H' : Hp} (k : KL A H H') {v : V} {ts : List Stn} {qs : List Pipe} {bg : Bg} (h : PlanA A H v ts qs bg) : PlanA A H' v ts qs bg := by
  obtain ⟨m, F, M, d, us, ws, rfl, hm, nF, nM, hF, pF, hM, pM, hb⟩ := h
  exact ⟨m, F, M, d, us, ws, rfl, k _ _ (fun _ z => nomatch z) (fun _ _ z => nomatch z) hm, nF, nM, k.lst nF hF, dat_all k pF, k.lst nM hM, pipe_all k.tups pM, hb.keep k.tups⟩
def plK (F M d : Addr) : List (Key × V) := [(Sum.inr "stations", .ref F), (Sum.inr "pipes", .ref M), (Sum.inr "begin", .ref d)]
theorem gS {H : Hp} {m F M d : Addr} (h : H m = some (.dK (plK F M d))) : DGet H m (.str "stations") (some (.ref F)) := .inl ⟨_, .inr "stations", .inl h, rfl, by unfold plK valV; rfl⟩
theorem gP {H : Hp} {m F M d : Addr} (h : H m = some (.dK (plK F M d))) : DGet H m (.str "pipes") (some (.ref M)) := .inl ⟨_, .inr "pipes", .inl h, rfl, by unfold plK valV; rfl⟩
theorem gB {H : Hp} {m F M d : Addr} (h : H m = some (.dK (plK F M d))) : DGet H m (.str "begin") (some (.ref d)) := .inl ⟨_, .inr "begin", .inl h, rfl, by unfold plK valV; rfl⟩
def spYardL (CY C : Addr) : Sp := fun vs H Q _ => ∃ (A : List Addr) (v : V) (ts : List Stn) (qs : List Pipe) (bg : Bg), vs = [v] ∧ PlanA A H v ts qs bg ∧ YdOk ts qs ∧ BegOk ts qs.length bg ∧ ∀ H' y, Same H H' → YdA CY C H' y ts qs → YdBg CY H' y bg → Q (.ref y) H'
section
variable {P : Program} {w : World} {K : PySem.W.Frag} {mg : Str → Option Value} {base : Heap} {aS a1 a2 aL aT : Addr} {f : Addr} {fd : FuncData} {C CD CY : Addr} {mc : Value}
abbrev s_law_yard : Stmt := top 76
abbrev N_law_yard : List Str := ["_law_plan_here", "_law_unit"]
theorem sc_law_yard : FnScope N_law_yard ["_law_plan_here"] (defScope s_law_yard) := ⟨rfl, rfl, rfl, by decide +kernel, rfl, by decide +kernel, by decide +kernel⟩
theorem ok_law_yard (F : Fun K "_law_yard" "_law_yard" s_law_yard f fd) (T : Txt K mg aS a1 a2) (mk_Yard : C8.Mak P w K mg base 6 "Yard" CY (spYdInit CY C) []) (mk_Station : C8.Mak P w K mg base 6 "Station" C (spStInit C) []) : FnOk P w K mg base CX0 8 f fd ["_law_plan_here"] (spYardL CY C) := by
  refine F.ok sc_law_yard (fun vs H Q E h => ?_) (fun cdv A0 outer s H vs Q E hr h => ?_)
  · obtain ⟨A, v, ts, qs, bg, rfl, _⟩ := h
    rfl
  obtain ⟨A, v, ts, qs, bg, rfl, pa, yok, bok, q⟩ := h
  obtain ⟨m, Lf, M, d, us, ws, rfl, hm, nF, nM, hF, pF, hM, pM, hb⟩ := pa
  refine ⟨_, (pss_one (ps_ret (C8.pe_mk mk_Yard hr (by decide) rfl (pa_cons (pe_lc (own := [("_law_unit", 1)]) rfl sc_law_yard.nd (kList K rfl (pe_dget (hu1 hr) (pv 0) pe_str (fun _ _ => rfl))) (blkOk_by (N := N_law_yard) (sc := defScope s_law_yard) (by decide +kernel)) (fun _ _ _ _ _ => (pg_name (i := 1) sc_law_yard.nd rfl (Or.inl rfl))) (fun _ _ _ _ _ => pts_nil) (fun _ _ _ _ _ => (C8.pe_mk mk_Station hr (by decide) rfl (pa_cons (pe_ix (kIxT K rfl) (pv 1) pe_int (fun _ _ => rfl)) (pa_cons (pe_ix (kIxT K rfl) (pv 1) pe_int (fun _ _ => rfl)) (pa_cons (pe_ix (kIxT K rfl) (pv 1) pe_int (fun _ _ => rfl)) pa_nil)))))) (pa_cons (pe_dget (hu1 hr) (pv 0) pe_str (fun _ _ => rfl)) (pa_cons (pe_dget (hu1 hr) (pv 0) pe_str (fun _ _ => rfl)) pa_nil)))))), ?_⟩
  have lus := paired_len2 pF
  have m2 := yok.m2
  refine ⟨_, rfl, m, .ref Lf, rfl, gS hm, _, rfl, ⟨_, SqL.of hF⟩, fun D hD => lc_it walk_list (fun i H' => Same H H' ∧ ∃ us', H' D = some (.lst us') ∧ Paired (StnA C H') us' (ts.take i)) ⟨same_new hD _, [], upd_same, .nil⟩ (fun i H' _ z => SqL.of (z.1 _ _ hF)) ?_ ?_⟩
  · rintro i x G1 G2 hi ⟨sm, us', hd, pu⟩ ⟨rfl, hx⟩
    obtain ⟨st, hst, hdat⟩ := paired_get pF hx
    obtain ⟨a, L, wsx, rfl, ha, _, hL, pL⟩ := hdat.kl (KL.of sm)
    have hil := lt_len hst
    have lu := paired_len2 pu
    refine ⟨rfl, tyI ⟨_, rfl, _, _, _, _, rfl, rfl, SqT.of ha, rfl, _, rfl, _, _, _, _, rfl, rfl, SqT.of ha, rfl, _, rfl, _, _, _, _, rfl, rfl, SqT.of ha, rfl, ?_⟩⟩
    intro xo dxo hxo hdxo hneo
    have mm := mk_same (C := C) hxo hdxo
    refine ⟨xo, L, dxo, wsx, st, rfl, upd_same, mm _ _ hL, told_all mm (toldX_told pL), yok.ok st (List.mem_of_getElem? hst), fun G3 k3 stn => ⟨rfl, ?_⟩⟩
    have s3 := mk_after hxo mm k3
    have hd3 := s3 _ _ hd
    have nl3 := NL.at (o := .lst (us' ++ [.ref xo])) hd3
    refine ⟨_, hd3, ?_, same_at (sm.trans' s3) hD, us' ++ [.ref xo], upd_same, ?_⟩
    · rw [List.length_take] at lu
      exact Nat.lt_of_lt_of_le (show us'.length < 100000 by omega) (by decide)
    · rw [List.take_succ, hst]
      exact paired_app (stn_all ((NL.of s3).trans nl3) pu) (.cons (stn.but2 nl3) .nil)
  rintro H2 ⟨s2, us2, hD2, pu2⟩
  rw [lus, List.take_of_length_le (Nat.le_refl _)] at pu2
  refine ⟨_, rfl, m, .ref M, rfl, gP (s2 _ _ hm), _, rfl, m, .ref d, rfl, gB (s2 _ _ hm), ?_⟩
  intro o dxo ho hdxo hneo
  have mm := mk_same (C := CY) ho hdxo
  refine ⟨o, dxo, D, M, .ref d, us2, ws, ts, qs, bg, rfl, upd_same, mm _ _ hD2, stn_all (NL.of mm) pu2, mm _ _ (s2 _ _ hM), pipe_all (Tups.of (s2.trans' mm)) pM, yok, .inr ⟨d, rfl, hb.keep (Tups.of (s2.trans' mm)), bok⟩, fun H3 b3 ya yb => ⟨rfl, ?_⟩⟩
  exact q _ _ (s2.trans' (mk_after ho mm b3)) ya yb
end
end FY


set_option Elab.async false
set_option linter.all false
set_option maxRecDepth 100000
set_option maxHeartbeats 4000000
namespace FY
open PySem L2 FYR
/-! ## the wires of a plan -/
def entI (f : Pipe → Nat × Nat) (n : Nat) (qs : List Pipe) : List (List Key × V) := (qs.zipIdx n).map fun e => (kL2 (f e.1), V.int (e.2 : Nat))
theorem entI_val (f : Pipe → Nat × Nat) : ∀ (qs : List Pipe) (n : Nat) (l : Nat × Nat), valV (entI f n qs) (kL2 l) = (qs.findIdx? fun p => decide (f p = l)).map fun (j : Nat) => V.int ((j + n : Nat) : Int)
  | [], n, l => rfl
  | p :: r, n, l => by
    show valV ((kL2 (f p), V.int (n : Nat)) :: entI f (n + 1) r) (kL2 l) = _
    rw [valV_cons, List.findIdx?_cons]
    by_cases z : f p = l
    · rw [if_pos (by rw [z]), decide_eq_true z]
      simp
    · rw [if_neg (fun y => z (kL2_inj y)), decide_eq_false z, entI_val f r (n + 1) l]
      simp only [Option.map_map, Bool.false_eq_true, if_false]
      congr 1
      funext j
      show V.int ((j + (n + 1) : Nat) : Int) = V.int ((j + 1 + n : Nat) : Int)
      rw [show j + (n + 1) = j + 1 + n by omega]
theorem entI_keys (f : Pipe → Nat × Nat) : ∀ (qs : List Pipe) (n : Nat), (entI f n qs).map (·.1) = (qs.map f).map kL2
  | [], n => rfl
  | p :: r, n => by
    show kL2 (f p) :: (entI f (n + 1) r).map (·.1) = _
    rw [entI_keys f r (n + 1)]
    rfl
theorem entI_app (f : Pipe → Nat × Nat) (qs : List Pipe) (p : Pipe) : entI f 0 (qs ++ [p]) = entI f 0 qs ++ [(kL2 (f p), V.int (qs.length : Nat))] := by
  unfold entI
  rw [List.zipIdx_append, List.map_append]
  simp
/-- a dict that tells for a line its place -/
def WD (f : Pipe → Nat × Nat) (kv : List (List Key × V)) (qs : List Pipe) : Prop := ∀ l, valV kv (kL2 l) = (qs.findIdx? fun p => decide (f p = l)).map fun (j : Nat) => V.int (j : Nat)
theorem wd_fold {f : Pipe → Nat × Nat} {es : List PE4} {qs : List Pipe} (h : (es.map fun e => (e.2.2.1, e.2.2.2)) = entI f 0 qs) (nd : (qs.map f).Nodup) : WD f (foldP es) qs := fun l => by
  unfold foldP
  rw [h, valV_fold _ _ _ (by rw [entI_keys]; exact List.Pairwise.map _ (fun a b h e => h (kL2_inj e)) nd), entI_val]
  cases qs.findIdx? fun p => decide (f p = l) <;> rfl
def WirA (A : List Addr) (H : Hp) (v : V) (ts : List Stn) (qs : List Pipe) : Prop := ∃ W I O E kv kw es, v = .ref W ∧ H W = some (.tup [.ref I, .ref O, .ref E]) ∧ H I = some (.dT kv) ∧ WD pe kv qs ∧ H O = some (.dT kw) ∧ WD pb kw qs ∧ E ∉ A ∧ H E = some (.lst es) ∧ Paired (PrA H) es (exitsOf ts qs)
theorem WirA.kl {A : List Addr} {H H' : Hp} (k : KL A H H') {v : V} {ts : List Stn} {qs : List Pipe} (h : WirA A H v ts qs) : WirA A H' v ts qs := by
  obtain ⟨W, I, O, E, kv, kw, es, rfl, h1, h2, h3, h4, h5, h6, h7, h8⟩ := h
  exact ⟨W, I, O, E, kv, kw, es, rfl, k _ _ (fun _ z => nomatch z) (fun _ _ z => nomatch z) h1, k _ _ (fun _ z => nomatch z) (fun _ _ z => nomatch z) h2, h3, k _ _ (fun _ z => nomatch z) (fun _ _ z => nomatch z) h4, h5, h6, k.lst h6 h7, pr_all k.tups h8⟩
def spWires : Sp := fun vs H Q _ => ∃ (A : List Addr) (v : V) (ts : List Stn) (qs : List Pipe) (bg : Bg), vs = [v] ∧ PlanA A H v ts qs bg ∧ YdOk ts qs ∧ (∀ a ∈ A, H a ≠ none) ∧ ∀ H' u, Same H H' → WirA A H' u ts qs → Q u H'
section
variable {P : Program} {w : World} {K : PySem.W.Frag} {mg : Str → Option Value} {base : Heap} {aS a1 a2 aL aT : Addr} {f : Addr} {fd : FuncData} {C CD CY : Addr} {mc : Value}
abbrev s_law_wires : Stmt := top 77
abbrev N_law_wires : List Str := ["_law_plan_here", "_law_into", "_law_out_of", "_law_ends", "_law_at", "_law_unit", "_law_spot", "_law_pipe", "_law_line"]
theorem sc_law_wires : FnScope N_law_wires ["_law_plan_here"] (defScope s_law_wires) := ⟨rfl, rfl, rfl, by decide +kernel, rfl, by decide +kernel, by decide +kernel⟩
theorem ok_law_wires (F : Fun K "_law_wires" "_law_wires" s_law_wires f fd) (T : Txt K mg aS a1 a2) : FnOk P w K mg base CX0 1 f fd ["_law_plan_here"] spWires := by
  refine F.ok sc_law_wires (fun vs H Q E h => ?_) (fun cdv A0 outer s H vs Q E hr h => ?_)
  · obtain ⟨A, v, ts, qs, bg, rfl, _⟩ := h
    rfl
  obtain ⟨A, v, ts, qs, bg, rfl, pa, yok, nn, q⟩ := h
  obtain ⟨m, Lf, M, d, us, ws, rfl, hm, nF, nM, hF, pF, hM, pM, hb⟩ := pa
  refine ⟨_, (pss_cons (ps_set (i := 1) sc_law_wires.nd rfl (Or.inl rfl) (pe_callTy (call_dictP rfl (hu2 hr)) rfl T.b_dict bt_dict (pa_cons (pe_lc (own := [("_law_spot", 6), ("_law_pipe", 7)]) rfl sc_law_wires.nd (kEnum K rfl rfl T.b_enumerate (pa_cons (pe_dget (hu1 hr) (pv 0) pe_str (fun _ _ => rfl)) pa_nil)) (blkOk_by (N := N_law_wires) (sc := defScope s_law_wires) (by decide +kernel)) (fun _ _ _ _ _ => (kTupG (n := 2) K rfl rfl (pgs_cons (pg_name (i := 6) sc_law_wires.nd rfl (Or.inl rfl)) (pgs_cons (pg_name (i := 7) sc_law_wires.nd rfl (Or.inl rfl)) pgs_nil)))) (fun _ _ _ _ _ => pts_nil) (fun _ _ _ _ _ => (pe_tup (pa_cons (pe_slice (kSlT K rfl) (pv 7) (po_some pe_int) po_none) (pa_cons (pv 6) pa_nil))))) pa_nil)))
        (pss_cons (ps_set (i := 2) sc_law_wires.nd rfl (Or.inr rfl) (pe_callTy (call_dictP rfl (hu2 hr)) rfl T.b_dict bt_dict (pa_cons (pe_lc (own := [("_law_spot", 6), ("_law_pipe", 7)]) rfl sc_law_wires.nd (kEnum K rfl rfl T.b_enumerate (pa_cons (pe_dget (hu1 hr) (pv 0) pe_str (fun _ _ => rfl)) pa_nil)) (blkOk_by (N := N_law_wires) (sc := defScope s_law_wires) (by decide +kernel)) (fun _ _ _ _ _ => (kTupG (n := 2) K rfl rfl (pgs_cons (pg_name (i := 6) sc_law_wires.nd rfl (Or.inl rfl)) (pgs_cons (pg_name (i := 7) sc_law_wires.nd rfl (Or.inl rfl)) pgs_nil)))) (fun _ _ _ _ _ => pts_nil) (fun _ _ _ _ _ => (pe_tup (pa_cons (pe_slice (kSlT K rfl) (pv 7) po_none (po_some pe_int)) (pa_cons (pv 6) pa_nil))))) pa_nil)))
        (pss_cons (ps_set (i := 3) sc_law_wires.nd rfl (Or.inl rfl) (pe_lst pa_nil))
        (pss_cons (ps_for PassesOwn.never rfl (kEnum K rfl rfl T.b_enumerate (pa_cons (pe_dget (hu1 hr) (pv 0) pe_str (fun _ _ => rfl)) pa_nil)) (kTupG (n := 2) K rfl rfl (pgs_cons (pg_name (i := 4) sc_law_wires.nd rfl (Or.inr rfl)) (pgs_cons (pg_name (i := 5) sc_law_wires.nd rfl (Or.inl rfl)) pgs_nil)))
        (pss_one (ps_expr (kBm K rfl PySem.F.plainAttrs_list PySem.F.slot_list_extend PySem.F.type_list_extend mt_extend (pv 3) (pa_cons (pe_lc (own := [("_law_line", 8)]) rfl sc_law_wires.nd (pi_range1 rfl T.b_range (pa_cons (pe_ix (kIxT K rfl) (pv 5) pe_int (fun _ _ => rfl)) pa_nil)) (blkOk_by (N := N_law_wires) (sc := defScope s_law_wires) (by decide +kernel)) (fun _ _ _ _ _ => (pg_name (i := 8) sc_law_wires.nd rfl (Or.inl rfl))) (fun _ _ _ _ _ => pts_one (pt_cmp (pc_dnotin (hu1 hr) (pe_tup (pa_cons (pv 4) (pa_cons (pv 8) pa_nil))) (pv 2)))) (fun _ _ _ _ _ => (pe_tup (pa_cons (pv 4) (pa_cons (pv 8) pa_nil))))) pa_nil)))))
        (pss_one (ps_ret (pe_tup (pa_cons (pv 1) (pa_cons (pv 2) (pa_cons (pv 3) pa_nil)))))))))), ?_⟩
  have lws := paired_len2 pM
  have mp := yok.mp
  -- into
  refine ⟨_, rfl, m, .ref M, rfl, gP hm, M, _, rfl, SqL.of hM, fun D hD => lc_it walk_enum (fun i H' => Same H H' ∧ ∃ es : List PE4, H' D = some (.lst (es.map fun e => .ref e.1)) ∧ (∀ e ∈ es, PrE H' e) ∧ (es.map fun e => (e.2.2.1, e.2.2.2)) = entI pe 0 (qs.take i)) ⟨same_new hD _, [], upd_same, by simp, rfl⟩ (fun i H' _ z => SqL.of (z.1 _ _ hM)) ?_ ?_⟩
  · rintro i x G1 G2 hi ⟨sm, es, hd, pr, em⟩ ⟨T0, i1, i2, rfl, hT0, rfl, hi1, hi2⟩
    obtain ⟨pi, hpi, tp, rfl, htp⟩ := paired_get pM hi2
    obtain rfl : V.int (i : Nat) = i1 := by simpa using hi1
    have k0 := same_new hT0 (.tup [.int (i : Nat), .ref tp])
    have hil := lt_len hpi
    refine ⟨_, _, rfl, SqT.of upd_same, rfl, _, _, rfl, _, _, rfl, rfl, rfl, tyI ⟨_, rfl, _, rfl, _, _, rfl, SqT.of (k0 _ _ (sm _ _ htp)), nw2, fun q1 hq1 => ⟨_, rfl, ?_⟩⟩⟩
    have k1 := same_new hq1 (.tup [.int pi.2.2.1, .int pi.2.2.2])
    refine ⟨sz rfl, fun t ht => ?_⟩
    have k2 := same_new ht (.tup [.ref q1, .int (i : Nat)])
    have s3 := (k0.trans' k1).trans' k2
    have hd3 := s3 _ _ hd
    have le : es.length = i := by
      have := congrArg List.length em
      unfold entI at this
      simp only [List.length_map, List.length_zipIdx, List.length_take] at this
      omega
    refine ⟨_, hd3, ?_, same_at (sm.trans' s3) hD, es ++ [(t, q1, kL2 (pe pi), .int (i : Nat))], ?_, fun e he => ?_, ?_⟩
    · rw [List.length_map]
      exact Nat.lt_of_lt_of_le (show es.length < 100000 by omega) (by decide)
    · rw [upd_same, List.map_append]; rfl
    · have tp := tups_at (o := .lst ((es.map fun e => V.ref e.1) ++ [.ref t])) hd3
      rcases List.mem_append.mp he with he | he
      · obtain ⟨e1, e2⟩ := pr e he
        exact ⟨tp _ _ (s3 _ _ e1), tp _ _ (s3 _ _ e2)⟩
      · rw [List.mem_singleton.mp he]
        exact ⟨tp _ _ upd_same, tp _ _ (k2 _ _ upd_same)⟩
    · rw [List.take_succ, hpi, List.map_append, em]
      show _ = entI pe 0 (qs.take i ++ [pi])
      rw [entI_app, List.length_take, Nat.min_eq_left (by omega)]
      rfl
  rintro H2 ⟨s2, es, hd2, pr2, em2⟩
  rw [lws, List.take_of_length_le (Nat.le_refl _)] at em2
  refine ⟨D, es, rfl, hd2, pr2, fun I hI => ?_⟩
  have kI := same_new hI (.dT (foldP es))
  have sI := s2.trans' kI
  have wI := wd_fold em2 yok.ne
  obtain ⟨H3, hH3⟩ : ∃ H3, H3 = upd H2 I (.dT (foldP es)) := ⟨_, rfl⟩
  have hI3 : H3 I = some (.dT (foldP es)) := by rw [hH3, upd_same]
  rw [← hH3] at sI ⊢
  clear hH3
  generalize foldP es = kv at *
  -- out_of
  refine ⟨_, rfl, m, .ref M, rfl, gP (sI _ _ hm), M, _, rfl, SqL.of (sI _ _ hM), fun D2 hD2 => lc_it walk_enum (fun i H' => Same H3 H' ∧ ∃ es : List PE4, H' D2 = some (.lst (es.map fun e => .ref e.1)) ∧ (∀ e ∈ es, PrE H' e) ∧ (es.map fun e => (e.2.2.1, e.2.2.2)) = entI pb 0 (qs.take i)) ⟨same_new hD2 _, [], upd_same, by simp, rfl⟩ (fun i H' _ z => SqL.of (z.1 _ _ (sI _ _ hM))) ?_ ?_⟩
  · rintro i x G1 G2 hi ⟨sm, es, hd, pr, em⟩ ⟨T0, i1, i2, rfl, hT0, rfl, hi1, hi2⟩
    obtain ⟨pi, hpi, tp, rfl, htp⟩ := paired_get pM hi2
    obtain rfl : V.int (i : Nat) = i1 := by simpa using hi1
    have k0 := same_new hT0 (.tup [.int (i : Nat), .ref tp])
    have hil := lt_len hpi
    refine ⟨_, _, rfl, SqT.of upd_same, rfl, _, _, rfl, _, _, rfl, rfl, rfl, tyI ⟨_, rfl, _, rfl, _, _, rfl, SqT.of (k0 _ _ (sm _ _ (sI _ _ htp))), fun z => absurd z.2 (show ¬ (2 : Nat) = 4 by decide), fun q1 hq1 => ⟨_, rfl, ?_⟩⟩⟩
    have k1 := same_new hq1 (.tup [.int pi.1, .int pi.2.1])
    refine ⟨sz rfl, fun t ht => ?_⟩
    have k2 := same_new ht (.tup [.ref q1, .int (i : Nat)])
    have s3 := (k0.trans' k1).trans' k2
    have hd3 := s3 _ _ hd
    have le : es.length = i := by
      have := congrArg List.length em
      unfold entI at this
      simp only [List.length_map, List.length_zipIdx, List.length_take] at this
      omega
    refine ⟨_, hd3, ?_, same_at (sm.trans' s3) hD2, es ++ [(t, q1, kL2 (pb pi), .int (i : Nat))], ?_, fun e he => ?_, ?_⟩
    · rw [List.length_map]
      exact Nat.lt_of_lt_of_le (show es.length < 100000 by omega) (by decide)
    · rw [upd_same, List.map_append]; rfl
    · have tp := tups_at (o := .lst ((es.map fun e => V.ref e.1) ++ [.ref t])) hd3
      rcases List.mem_append.mp he with he | he
      · obtain ⟨e1, e2⟩ := pr e he
        exact ⟨tp _ _ (s3 _ _ e1), tp _ _ (s3 _ _ e2)⟩
      · rw [List.mem_singleton.mp he]
        exact ⟨tp _ _ upd_same, tp _ _ (k2 _ _ upd_same)⟩
    · rw [List.take_succ, hpi, List.map_append, em]
      show _ = entI pb 0 (qs.take i ++ [pi])
      rw [entI_app, List.length_take, Nat.min_eq_left (by omega)]
      rfl
  rintro H4 ⟨s4, es, hd4, pr4, em4⟩
  rw [lws, List.take_of_length_le (Nat.le_refl _)] at em4
  refine ⟨D2, es, rfl, hd4, pr4, fun O hO => ?_⟩
  have kO := same_new hO (.dT (foldP es))
  have wO := wd_fold em4 yok.nb
  have s35 := s4.trans' kO
  obtain ⟨H5, hH5⟩ : ∃ H5, H5 = upd H4 O (.dT (foldP es)) := ⟨_, rfl⟩
  have hO5 : H5 O = some (.dT (foldP es)) := by rw [hH5, upd_same]
  rw [← hH5] at s35 ⊢
  clear hH5
  generalize foldP es = kw at *
  have s5 := sI.trans' s35
  have hI5 := s35 _ _ hI3
  -- ends
  refine ⟨sz rfl, fun E1 hE1 => ?_⟩
  have kE := same_new hE1 (.lst [])
  have hF5 := s5 _ _ hF
  have pF5 := dat_all (KL.of s5) pF
  have m2 := yok.m2
  have lus := paired_len2 pF
  have o2 : ∀ t ∈ ts, t.outs ≤ 2 := fun t ht => (yok.ok t ht).o2
  refine ⟨_, rfl, m, .ref Lf, rfl, gS (kE _ _ (s5 _ _ hm)), Lf, _, rfl, SqL.of (kE _ _ hF5), for_it walk_enum (fun i σ H' => ∃ (z4 z5 : Option V) (ev : List V), σ = [some (.ref m), some (.ref I), some (.ref O), some (.ref E1), z4, z5, none, none, none] ∧ Same H5 H' ∧ H' E1 = some (.lst ev) ∧ Paired (PrA H') ev ((linesFrom 0 (ts.take i)).filter fun l => !decide (l ∈ qs.map pb))) ?h0 (fun i σ H' _ ⟨_, _, _, _, z, _⟩ => SqL.of (z _ _ hF5)) ?hs ?hd⟩
  case h0 => exact ⟨_, _, [], rfl, kE, upd_same, .nil⟩
  case hs =>
    rintro i x σ G1 G2 hi ⟨z7, z8, ev, rfl, sm, hE, pev⟩ ⟨T0, i1, i2, rfl, hT0, rfl, hi1, hi2⟩
    obtain ⟨st, hst, a, L, wsx, rfl, ha, _, _, _⟩ := paired_get pF5 hi2
    have hil := lt_len hst
    obtain rfl : V.int (i : Nat) = i1 := by simpa using hi1
    have k0 := same_new hT0 (.tup [.int (i : Nat), .ref a])
    have ho := o2 st (List.mem_of_getElem? hst)
    have lev := paired_len2 pev
    have hm1 : i < 12 := by omega
    refine ⟨_, _, rfl, SqT.of upd_same, rfl, _, _, rfl, _, _, rfl, rfl, ?_⟩
    generalize hG3 : upd G1 T0 (HO.tup [V.int (i : Nat), V.ref a]) = G3 at *
    have sm3 : Same H5 G3 := sm.trans' k0
    have hE3 := k0 _ _ hE
    refine ⟨_, rfl, .inl ⟨rfl, _, SqL.of hE3⟩, _, rfl, _, _, _, _, rfl, rfl, SqT.of (sm3 _ _ ha), rfl, st.outs, rfl, by omega, by omega, fun D2 hD2 => lc_it walk_range (fun j H' => Same G3 H' ∧ ∃ xs, H' D2 = some (.lst xs) ∧ xs.length ≤ j ∧ Paired (PrA H') xs (((List.range j).map fun k => (i, k)).filter fun l => !decide (l ∈ qs.map pb))) ⟨same_new hD2 _, [], upd_same, Nat.le_refl 0, .nil⟩ (fun _ _ _ _ => trivial) ?_ ?_⟩
    · rintro j x G4 G5 hj ⟨sm4, xs, hd4, lx, px⟩ ⟨rfl, hx⟩
      have hx : x = .int (j : Int) := by rw [hx]; exact congrArg V.int (Int.zero_add _)
      subst hx
      have hj' : j < st.outs := by omega
      refine ⟨rfl, ⟨_, rfl, _, rfl, sz rfl, fun q1 hq1 => ⟨_, rfl, ?_⟩⟩⟩
      have k1 := same_new hq1 (.tup [.int (i : Nat), .int (j : Nat)])
      have s145 := (sm3.trans' sm4).trans' k1
      refine ⟨O, _, rfl, .inr ⟨kw, kL2 (i, j), q1, .inl (s145 _ _ hO5), rfl, upd_same, rfl⟩, ?_⟩
      rw [wO (i, j), show (Option.map (fun (j : Nat) => V.int (j : Nat)) (qs.findIdx? fun p => decide (pb p = (i, j)))).isSome = decide (((i, j) : Nat × Nat) ∈ qs.map pb) by
        rw [Option.isSome_map, List.findIdx?_isSome, Bool.eq_iff_iff]
        simp [List.any_eq_true]]
      have hd5 := k1 _ _ hd4
      by_cases hm : ((i, j) : Nat × Nat) ∈ qs.map pb
      · rw [decide_eq_true hm]
        refine ⟨_, rfl, iteF ⟨sm4.trans' k1, xs, hd5, by omega, ?_⟩⟩
        rw [List.range_succ, List.map_append, List.filter_append, List.map_cons, List.filter_cons_of_neg (by simp [hm])]
        simpa using pr_all (Tups.of k1) px
      · rw [decide_eq_false hm]
        refine ⟨_, rfl, iteT ⟨_, rfl, _, rfl, sz rfl, fun q2 hq2 => ?_⟩⟩
        have k2 := same_new hq2 (.tup [.int (i : Nat), .int (j : Nat)])
        have hd6 := k2 _ _ hd5
        refine ⟨_, hd6, ?_, same_at ((sm4.trans' k1).trans' k2) hD2, xs ++ [.ref q2], upd_same, ?_, ?_⟩
        · exact Nat.lt_of_lt_of_le (show xs.length < 100000 by omega) (by decide)
        · rw [List.length_append]
          exact Nat.succ_le_succ lx
        · rw [List.range_succ, List.map_append, List.filter_append, List.map_cons, List.filter_cons_of_pos (by simpa using hm)]
          exact paired_app (pr_all ((Tups.of (k1.trans' k2)).trans (tups_at hd6)) px) (.cons ⟨q2, rfl, tups_at hd6 _ _ upd_same⟩ .nil)
    · rintro G4 ⟨sm4, xs, hd4, lx, px⟩
      have hE4 := sm4 _ _ hE3
      have lle := lines_le (n := 0) (ts := ts.take i) fun t ht => o2 t (List.mem_of_mem_take ht)
      have lfl := List.length_filter_le (fun l => !decide (l ∈ qs.map pb)) (linesFrom 0 (ts.take i))
      rw [List.length_take] at lle
      refine ⟨E1, D2, ev, xs, rfl, rfl, hE4, hd4, ?_, ?_⟩
      · exact Nat.le_trans (show ev.length + xs.length ≤ 100000 by omega) (by decide)
      refine ⟨_, _, ev ++ xs, rfl, same_at (sm3.trans' sm4) hE1, upd_same, ?_⟩
      rw [lines_take hst, List.filter_append]
      exact paired_app (pr_all (((Tups.of k0).trans (Tups.of sm4)).trans (tups_at hE4)) pev) (pr_all (tups_at hE4) px)
  case hd =>
  rintro σ H6 ⟨z4, z5, ev, rfl, s6, hE6, pev⟩
  rw [lus, List.take_of_length_le (Nat.le_refl _)] at pev
  have pev : Paired (PrA H6) ev (exitsOf ts qs) := pev
  refine ⟨_, rfl, _, rfl, _, rfl, sz rfl, fun W hW => ?_⟩
  have k7 := same_new hW (.tup [.ref I, .ref O, .ref E1])
  have s57 := s6.trans' k7
  refine q _ _ (s5.trans' s57) ⟨W, I, O, E1, kv, kw, ev, rfl, upd_same, s57 _ _ hI5, wI, s57 _ _ hO5, wO, fun z => nn E1 z (none_of s5 hE1), k7 _ _ hE6, pr_all (Tups.of k7) pev⟩
end
end FY


set_option Elab.async false
set_option linter.all false
set_option maxRecDepth 100000
set_option maxHeartbeats 4000000
namespace FY
open PySem L2 FYR
/-! ## the law's own stepping -/
def spBeginL : Sp := fun vs H Q _ => ∃ (A : List Addr) (v : V) (x : List Bool) (ts : List Stn) (qs : List Pipe) (bg : Bg), vs = [v, .str (tx x)] ∧ PlanA A H v ts qs bg ∧ YdOk ts qs ∧ (∀ a ∈ A, H a ≠ none) ∧ ∀ H' u, Same H H' → StaA H' u (begS bg (exitsOf ts qs) x) → Q u H'
section
variable {P : Program} {w : World} {K : PySem.W.Frag} {mg : Str → Option Value} {base : Heap} {aS a1 a2 aL aT : Addr} {f : Addr} {fd : FuncData} {C CD CY : Addr} {mc : Value}
abbrev s_law_begin : Stmt := top 78
abbrev N_law_begin : List Str := ["_law_plan_here", "_law_text", "_law_line"]
theorem sc_law_begin : FnScope N_law_begin ["_law_plan_here", "_law_text"] (defScope s_law_begin) := ⟨rfl, rfl, rfl, by decide +kernel, rfl, by decide +kernel, by decide +kernel⟩
theorem ok_law_begin (F : Fun K "_law_begin" "_law_begin" s_law_begin f fd) (T : Txt K mg aS a1 a2) (c__law_wires : C8.Cal P w K mg base 1 "_law_wires" spWires []) : FnOk P w K mg base CX0 2 f fd ["_law_plan_here", "_law_text"] spBeginL := by
  refine F.ok sc_law_begin (fun vs H Q E h => ?_) (fun cdv A0 outer s H vs Q E hr h => ?_)
  · obtain ⟨A, v, x, ts, qs, bg, rfl, _⟩ := h
    rfl
  obtain ⟨A, v, x, ts, qs, bg, rfl, pa, yok, nn, q⟩ := h
  have pa0 := pa
  obtain ⟨m, Lf, M, d, us, ws, rfl, hm, nF, nM, hF, pF, hM, pM, hb⟩ := pa
  refine ⟨_, (pss_one (ps_ret (pe_op (kCatA K rfl) (pe_dget (hu1 hr) (pv 0) pe_str (fun _ _ => rfl)) (pe_tup (pa_cons (pv 1) (pa_cons (pe_callTy (kTupOf K rfl) rfl T.b_tuple bt_tuple (pa_cons (pe_lc (own := [("_law_line", 2)]) rfl sc_law_begin.nd (kList K rfl (pe_ix (kIxT K rfl) (C8.pe_c c__law_wires hr (by decide) rfl (pa_cons (pv 0) pa_nil)) pe_int (fun _ _ => rfl))) (blkOk_by (N := N_law_begin) (sc := defScope s_law_begin) (by decide +kernel)) (fun _ _ _ _ _ => (pg_name (i := 2) sc_law_begin.nd rfl (Or.inl rfl))) (fun _ _ _ _ _ => pts_nil) (fun _ _ _ _ _ => pe_str)) pa_nil)) pa_nil)))))), ?_⟩
  refine ⟨_, rfl, m, .ref d, rfl, gB hm, _, rfl, _, rfl, A, _, ts, qs, bg, rfl, pa0, yok, nn, fun H2 u s2 wa => ?_⟩
  obtain ⟨W, I, O, E1, kv, kw, es, rfl, hW, hI, wI, hO, wO, nE, hE, pE⟩ := wa
  have ex := yok.ex
  have les := paired_len2 pE
  refine ⟨_, _, _, _, rfl, rfl, SqT.of hW, rfl, _, rfl, ⟨_, SqL.of hE⟩, fun D hD => lc_it walk_list (fun i H' => Same H2 H' ∧ H' D = some (.lst (tV (List.replicate i [])))) ⟨same_new hD _, upd_same⟩ (fun i H' _ z => SqL.of (z.1 _ _ hE)) ?_ ?_⟩
  · rintro i x' G1 G2 hi ⟨sm, hd⟩ ⟨rfl, hx⟩
    refine ⟨rfl, tyI ⟨_, hd, ?_, same_at sm hD, ?_⟩⟩
    · unfold tV
      simp only [List.length_map, List.length_replicate]
      exact Nat.lt_of_lt_of_le (show i < 100000 by omega) (by decide)
    · rw [upd_same]
      unfold tV
      rw [List.replicate_succ', List.map_append]
      rfl
  rintro H3 ⟨s3, hd3⟩
  rw [les] at hd3
  refine ⟨_, _, rfl, .inl ⟨SqL.of hd3, fun g hg => ?_⟩⟩
  have k4 := same_new hg (.tup (tV (List.replicate (exitsOf ts qs).length [])))
  refine ⟨sz rfl, fun t ht => ?_⟩
  have k5 := same_new ht (.tup [.str (tx x), .ref g])
  obtain ⟨d1, d2, hd0, hd1, hd2⟩ := hb
  have s5 := ((s2.trans' s3).trans' k4).trans' k5
  refine catA_of (s5 _ _ hd0) upd_same (by simp) fun H7 t7 s7 ht7 => ?_
  have s57 := s5.trans' s7
  exact q _ _ s57 ⟨t7, d1, d2, g, rfl, ht7, s57 _ _ hd1, s57 _ _ hd2, s7 _ _ (k5 _ _ upd_same)⟩
end
end FY


set_option Elab.async false
set_option linter.all false
set_option maxRecDepth 100000
set_option maxHeartbeats 4000000
namespace FY
/-! ### every in-line but the first one has its pipe -/
theorem nd_len {α : Type} [DecidableEq α] : ∀ {a b : List α}, a.Nodup → (∀ x ∈ a, x ∈ b) → a.length ≤ b.length
  | [], b, _, _ => Nat.zero_le _
  | x :: r, b, h, hs => by
    obtain ⟨h1, h2⟩ := List.nodup_cons.mp h
    have hx := hs x (List.mem_cons_self ..)
    have := nd_len (a := r) (b := b.erase x) h2 fun y hy => (List.mem_erase_of_ne (show y ≠ x from fun z => h1 (by rw [← z]; exact hy))).mpr (hs y (List.mem_cons_of_mem _ hy))
    rw [List.length_erase_of_mem hx] at this
    have : 1 ≤ b.length := List.length_pos_of_mem hx
    simp only [List.length_cons]
    omega
theorem nd_all {α : Type} [DecidableEq α] {a b : List α} (h : a.Nodup) (hs : ∀ x ∈ a, x ∈ b) (hl : b.length ≤ a.length) : ∀ x ∈ b, x ∈ a := fun x hx => by
  by_cases z : x ∈ a
  · exact z
  · have := nd_len (a := x :: a) (b := b) (List.nodup_cons.mpr ⟨z, h⟩) fun y hy => by
      rcases List.mem_cons.mp hy with e | e
      · rw [e]; exact hx
      · exact hs y e
    simp only [List.length_cons] at this
    omega
def inFrom : Nat → List Stn → List (Nat × Nat)
  | _, [] => []
  | n, t :: r => ((List.range t.ins).map fun k => (n, k)) ++ inFrom (n + 1) r
theorem inFrom_len : ∀ (n : Nat) (ts : List Stn), (inFrom n ts).length = sumIns ts
  | _, [] => rfl
  | n, t :: r => by
    simp only [inFrom, sumIns, List.length_append, List.length_map, List.length_range, inFrom_len (n + 1) r]
theorem mem_in : ∀ {ts : List Stn} {n s l : Nat} {t : Stn}, ts[s]? = some t → l < t.ins → (n + s, l) ∈ inFrom n ts
  | u :: r, n, 0, l, t, h, hl => by
    obtain rfl : u = t := by simpa using h
    exact List.mem_append_left _ (List.mem_map.mpr ⟨l, List.mem_range.mpr hl, rfl⟩)
  | u :: r, n, s + 1, l, t, h, hl => by
    have := mem_in (ts := r) (n := n + 1) (s := s) (by simpa using h) hl
    rw [show n + 1 + s = n + (s + 1) by omega] at this
    exact List.mem_append_right _ this
theorem all_in {ts : List Stn} {ps : List Pipe} (y : YdOk ts ps) : AllIn ts (srt ps) := fun s t l hs hl hn => by
  have lp : (srt ps).length = ps.length := (srt_perm ps).length_eq
  have h00 : ((0 : Nat), (0 : Nat)) ∈ inFrom 0 ts := by
    cases z : ts with
    | nil => rw [z] at hs; simp at hs
    | cons u r =>
      have := y.hd u (by rw [z]; rfl)
      exact mem_in (ts := u :: r) (n := 0) (s := 0) (t := u) (by simp) (by omega)
  have nd : (((srt ps).map pe)).Nodup := ((srt_perm ps).map pe).symm.nodup y.ne
  have sub : ∀ x ∈ (srt ps).map pe, x ∈ (inFrom 0 ts).erase (0, 0) := fun x hx => by
    obtain ⟨p, hp, rfl⟩ := List.mem_map.mp hx
    have ok := y.pp p ((srt_perm ps).mem_iff.mp hp)
    obtain ⟨u, hu, lu, _⟩ := ok.e
    have := mem_in (n := 0) hu lu
    rw [Nat.zero_add] at this
    refine (List.mem_erase_of_ne fun z => ?_).mpr this
    have e1 : p.2.2.1 = 0 := (Prod.mk.inj z).1
    have := ok.lt
    omega
  have ln : ((inFrom 0 ts).erase (0, 0)).length ≤ ((srt ps).map pe).length := by
    rw [List.length_erase_of_mem h00, inFrom_len, List.length_map, lp]
    have := y.sm
    omega
  have hm := nd_all nd sub ln (s, l) ((List.mem_erase_of_ne hn).mpr (by
    have := mem_in (n := 0) hs hl
    rw [Nat.zero_add] at this
    exact this))
  obtain ⟨p, hp, e⟩ := List.mem_map.mp hm
  exact ⟨p, hp, e⟩
/-- where an in-line's pipe is found -/
theorem find_in {ts : List Stn} {qs : List Pipe} (y : YdOk ts qs) (A : AllIn ts qs) {s l : Nat} {t : Stn} (e : ts[s]? = some t) (hl : l < t.ins) : (qs.findIdx? fun p => decide (pe p = (s, l))) = if (s, l) = (0, 0) then none else some (ixIn qs s l) := by
  by_cases z : (s, l) = (0, 0)
  · rw [if_pos z, List.findIdx?_eq_none_iff]
    intro p hp
    rw [z]
    refine decide_eq_false fun q => ?_
    have e1 : p.2.2.1 = 0 := (Prod.mk.inj q).1
    have := (y.pp p hp).lt
    omega
  · rw [if_neg z]
    obtain ⟨p, hp, e'⟩ := A s t l e hl z
    unfold ixIn
    rw [List.findIdx?_eq_some_iff_findIdx_eq]
    exact ⟨List.findIdx_lt_length_of_exists ⟨p, hp, decide_eq_true e'⟩, rfl⟩
end FY

set_option Elab.async false
set_option linter.all false
set_option maxRecDepth 100000
set_option maxHeartbeats 4000000
namespace FY
open PySem L2 FYR
/-! ## further rules: list.index, o[i] += text -/
theorem kIndex {X : Cx} (K : PySem.W.Frag) (hK : X.K = K) : MtR X "list.index" (rIndex K) := by subst hK; exact mt_index
theorem kIndexD {X : Cx} (K : PySem.W.Frag) (hK : X.K = K) (hu : X.A.units + 65 < cLine) : MtR X "list.index" (rIndexD K) := by subst hK; exact mt_indexD hu
/-- l[i], i not below 0 -/
def rGetL (K : PySem.W.Frag) : V → V → Hp → VK → Prop := fun x y H Q => ∃ (p : Addr) (xs : List V) (i : Nat) (v : V), x = .ref p ∧ y = .int (i : Nat) ∧ SqL K H p xs ∧ xs[i]? = some v ∧ Q v H
theorem kGetL {X : Cx} (K : PySem.W.Frag) (hK : X.K = K) : PGet X (rGetL K) := by
  subst hK
  intro pins s σ H x y v u Q I rx ry h
  obtain ⟨p, xs, i, z, rfl, rfl, hq, he, q⟩ := h
  cases rx
  obtain ⟨t, rfl⟩ := ry
  obtain ⟨its, r, pl, hz⟩ := I.list hq
  obtain ⟨w, ew, rw'⟩ := r.get he
  have hl := r.length
  have hn := line63
  have fin : EP X pins σ Q w s := ⟨z, H, I, rw', q⟩
  have hi := (List.getElem?_eq_some_iff.mp he).1
  exact wpAny_getItem_list pl.isList (by omega) (by omega) (by simpa using ew) fin
theorem ip_addS {X : Cx} : PIp X .Add (fun x y H Q => ∃ i j, x = .str i ∧ y = .str j ∧ i.length + j.length ≤ sizeLine ∧ Q (.str (i ++ j)) H) := iop_add_str
end FY

set_option Elab.async false
set_option linter.all false
set_option maxRecDepth 100000
set_option maxHeartbeats 4000000
namespace FY
open PySem L2 FYR
/-- a plan and its wires -/
structure LK (A : List Addr) (H : Hp) (pv wv : V) (ts : List Stn) (qs : List Pipe) (bg : Bg) : Prop where
  pl : PlanA A H pv ts qs bg
  wi : WirA A H wv ts qs
  yo : YdOk ts qs
  sr : srt qs = qs
theorem LK.kl {A : List Addr} {H H' : Hp} {pv wv : V} {ts : List Stn} {qs : List Pipe} {bg : Bg} (h : LK A H pv wv ts qs bg) (k : KL A H H') : LK A H' pv wv ts qs bg := ⟨h.pl.kl k, h.wi.kl k, h.yo, h.sr⟩
theorem LK.same {A : List Addr} {H H' : Hp} {pv wv : V} {ts : List Stn} {qs : List Pipe} {bg : Bg} (h : LK A H pv wv ts qs bg) (k : Same H H') : LK A H' pv wv ts qs bg := h.kl (KL.of k)
theorem LK.al {A : List Addr} {H : Hp} {pv wv : V} {ts : List Stn} {qs : List Pipe} {bg : Bg} (h : LK A H pv wv ts qs bg) : AllIn ts qs := by
  have := all_in h.yo
  rw [h.sr] at this
  exact this
theorem rd_at (r : Rd) {i c : Nat} (h : r.s.cps[i]? = some c) : ∃ l : Nat, r.lines[i]? = some l ∧ PySem.intText? ⟨#[c]⟩ = some ((l : Int) + 1) := by
  have key : ∀ r : Rd, r.s.cps = (r.lines.map fun l => l + 49).toArray := fun r => by cases r <;> decide +kernel
  rw [key r, List.getElem?_toArray, List.getElem?_map] at h
  cases z : r.lines[i]? with
  | none => rw [z] at h; cases h
  | some l =>
    rw [z] at h
    obtain rfl : l + 49 = c := Option.some.inj h
    refine ⟨l, rfl, ?_⟩
    have hl := List.mem_of_getElem? z
    have : l = 0 ∨ l = 1 := by cases r <;> simp [Rd.lines] at hl <;> omega
    rcases this with rfl | rfl <;> decide +kernel
theorem idx1 {c : List Bool} (h : c.length = 1) : ∃ z, [V.str "0", V.str "1"][valB c]? = some z ∧ eqV z (.str (tx c)) = true ∧ ∀ (m : Nat) (z' : V), m < valB c → [V.str "0", V.str "1"][m]? = some z' → eqV z' (.str (tx c)) = false := by
  match c, h with
  | [false], _ => exact ⟨_, rfl, by decide +kernel, fun m z' hm => absurd hm (Nat.not_lt_zero _)⟩
  | [true], _ =>
    refine ⟨_, rfl, by decide +kernel, fun m z' hm hz => ?_⟩
    have hm : m < 1 := hm
    obtain rfl : m = 0 := by omega
    obtain rfl := Option.some.inj hz
    decide +kernel
theorem idx2 {c : List Bool} (h : c.length = 2) : ∃ z, [V.str "00", V.str "01", V.str "10", V.str "11"][valB c]? = some z ∧ eqV z (.str (tx c)) = true ∧ ∀ (m : Nat) (z' : V), m < valB c → [V.str "00", V.str "01", V.str "10", V.str "11"][m]? = some z' → eqV z' (.str (tx c)) = false := by
  match c, h with
  | [false, false], _ => exact ⟨_, rfl, by decide +kernel, fun m z' hm => absurd hm (Nat.not_lt_zero _)⟩
  | [false, true], _ =>
    refine ⟨_, rfl, by decide +kernel, fun m z' hm hz => ?_⟩
    have hm : m < 1 := hm
    obtain rfl : m = 0 := by omega
    obtain rfl := Option.some.inj hz
    decide +kernel
  | [true, false], _ =>
    refine ⟨_, rfl, by decide +kernel, fun m z' hm hz => ?_⟩
    have hm : m < 2 := hm
    rcases (show m = 0 ∨ m = 1 by omega) with rfl | rfl <;> obtain rfl := Option.some.inj hz <;> decide +kernel
  | [true, true], _ =>
    refine ⟨_, rfl, by decide +kernel, fun m z' hm hz => ?_⟩
    have hm : m < 3 := hm
    rcases (show m = 0 ∨ m = 1 ∨ m = 2 by omega) with rfl | rfl | rfl <;> obtain rfl := Option.some.inj hz <;> decide +kernel
def spRowAt : Sp := fun vs H Q _ => ∃ (A : List Addr) (pv wv v : V) (σ : Sta) (s : Nat) (ts : List Stn) (qs : List Pipe) (bg : Bg), vs = [pv, wv, v, .int (s : Nat)] ∧ LK A H pv wv ts qs bg ∧ StaA H v σ ∧ StOk ts qs σ ∧ s < ts.length ∧ ∀ H' u, Same H H' → RowV H' u (rowS ts qs σ s) → Q u H'
section
variable {P : Program} {w : World} {K : PySem.W.Frag} {mg : Str → Option Value} {base : Heap} {aS a1 a2 aL aT : Addr} {f : Addr} {fd : FuncData} {C CD CY : Addr} {mc : Value}
abbrev s_law_row_at : Stmt := top 79
abbrev N_law_row_at : List Str := ["_law_plan_here", "_law_wires_here", "_law_here", "_law_at", "_law_told", "_law_rows", "_law_heard", "_law_line", "_law_spot"]
theorem sc_law_row_at : FnScope N_law_row_at ["_law_plan_here", "_law_wires_here", "_law_here", "_law_at"] (defScope s_law_row_at) := ⟨rfl, rfl, rfl, by decide +kernel, rfl, by decide +kernel, by decide +kernel⟩
theorem ok_law_row_at (F : Fun K "_law_row_at" "_law_row_at" s_law_row_at f fd) (T : Txt K mg aS a1 a2) : FnOk P w K mg base CX0 1 f fd ["_law_plan_here", "_law_wires_here", "_law_here", "_law_at"] spRowAt := by
  refine F.ok sc_law_row_at (fun vs H Q E h => ?_) (fun cdv A0 outer s0 H vs Q E hr h => ?_)
  · obtain ⟨A, pv, wv, v, σ, s, ts, qs, bg, rfl, _⟩ := h
    rfl
  obtain ⟨A, pv, wv, v, σ, s, ts, qs, bg, rfl, lk, sa, so, hs, q⟩ := h
  have al := lk.al
  obtain ⟨⟨m, Lf, M, d, us, ws, rfl, hm, nF, nM, hF, pF, hM, pM, hb⟩, ⟨W, I, O, E1, kv, kw, es, rfl, hW, hI, wI, hO, wO, nE, hE, pE⟩, yok, sr⟩ := lk
  obtain ⟨va, vp, vq, vr, rfl, h1, h2, h3, h4⟩ := sa
  have et : ts[s]? = some ts[s] := List.getElem?_eq_getElem hs
  obtain ⟨t, htt⟩ : ∃ t, t = ts[s] := ⟨_, rfl⟩
  rw [← htt] at et
  have tok := yok.ok t (List.mem_of_getElem? et)
  obtain ⟨u, hu, ta, L, wsx, rfl, hta, nL, hL, pL⟩ := paired_at pF et
  have ls : s < σ.sd.length := by rw [so.ls]; exact hs
  have eg : σ.sd[s]? = some σ.sd[s] := List.getElem?_eq_getElem ls
  have lg := so.st s t _ et eg
  have esg : t.stgs[σ.sd[s]]? = some t.stgs[σ.sd[s]] := List.getElem?_eq_getElem lg
  obtain ⟨gv, hgv, ga, gq, gws, rfl, hga, ngq, hgq, prw⟩ := paired_at pL esg
  have sgok := tok.sg _ (List.getElem_mem lg)
  have eS : sgAt ts σ s = t.stgs[σ.sd[s]] := by unfold sgAt; rw [et, eg]; show (t.stgs[σ.sd[s]]?).getD _ = _; rw [esg]; rfl
  generalize hsg : t.stgs[σ.sd[s]] = sg at *
  refine ⟨_, (pss_cons (ps_asg (pe_ix (kIxL K rfl) (pe_ix (kIxT K rfl) (pe_ix (kIxL K rfl) (pe_dget (hu1 hr) (pv 0) pe_str (fun _ _ => rfl)) (pv 3) (fun _ _ => rfl)) pe_int (fun _ _ => rfl)) (pe_ix (kIxT K rfl) (pe_ix (kIxT K rfl) (pv 2) pe_int (fun _ _ => rfl)) (pv 3) (fun _ _ => rfl)) (fun _ _ => rfl)) (kTupG (n := 2) K rfl rfl (pgs_cons (pg_name (i := 4) sc_law_row_at.nd rfl (Or.inl rfl)) (pgs_cons (pg_name (i := 5) sc_law_row_at.nd rfl (Or.inl rfl)) pgs_nil))))
        (pss_cons (ps_set (i := 6) sc_law_row_at.nd rfl (Or.inl rfl) pe_str)
        (pss_cons (ps_for PassesOwn.never rfl (pi_str (pv 4)) (pg_name (i := 7) sc_law_row_at.nd rfl (Or.inl rfl))
        (pss_cons (ps_set (i := 8) sc_law_row_at.nd rfl (Or.inl rfl) (pe_dget1 (hu1 hr) (pe_ix (kIxT K rfl) (pv 1) pe_int (fun _ _ => rfl)) (pe_tup (pa_cons (pv 3) (pa_cons (pe_op op_sub (pe_callTy call_int_str rfl T.b_int bt_int (pa_cons (pv 7) pa_nil)) pe_int) pa_nil))) ⟨rfl, rfl, rfl, rfl⟩))
        (pss_one (ps_set (i := 6) sc_law_row_at.nd rfl (Or.inl rfl) (pe_op op_add_str (pv 6) (pe_ifExp (pt_cmp (pc_isN (pv 8))) (pe_slice sl_str (pe_ix (kIxT K rfl) (pv 2) pe_int (fun _ _ => rfl)) po_none (po_some pe_int)) (pe_slice sl_str (pe_ix (kIxT K rfl) (pe_ix (kIxT K rfl) (pv 2) pe_int (fun _ _ => rfl)) (pv 8) (fun _ _ => rfl)) po_none (po_some pe_int))))))))
        (pss_cons (ps_if (pt_cmpR op_lt (pe_callB call_len_str rfl T.b_len bt_len (pa_cons (pv 6) pa_nil)) (pe_callB call_len_str rfl T.b_len bt_len (pa_cons (pv 4) pa_nil)) (nomark _))
        (pss_one (ps_ret pe_non))
        pss_nil)
        (pss_one (ps_ret (pe_ix (kIxL K rfl) (pv 5) (pe_ifExp (pt_cmpR op_eq (pe_callB call_len_str rfl T.b_len bt_len (pa_cons (pv 4) pa_nil)) pe_int (nomark _)) (kBm K rfl PySem.F.plainAttrs_list PySem.F.slot_list_index PySem.F.type_list_index (kIndex K rfl) (pe_lst (pa_cons pe_str (pa_cons pe_str pa_nil))) (pa_cons (pv 6) pa_nil)) (kBm K rfl PySem.F.plainAttrs_list PySem.F.slot_list_index PySem.F.type_list_index (kIndex K rfl) (pe_lst (pa_cons pe_str (pa_cons pe_str (pa_cons pe_str (pa_cons pe_str pa_nil))))) (pa_cons (pv 6) pa_nil))) (fun _ _ => rfl)))))))), ?_⟩
  refine ⟨_, rfl, m, .ref Lf, rfl, gS hm, _, rfl, _, _, _, _, rfl, rfl, SqL.of hF, atI_nat hu, _, _, _, _, rfl, rfl, SqT.of hta, rfl, _, rfl, _, _, _, _, rfl, rfl, SqT.of h1, atI_nat (i := 0) rfl, _, rfl, _, _, _, _, rfl, rfl, SqT.of h2, atI_nat (i := s) (x := .int (σ.sd[s] : Nat)) (by unfold nV; rw [List.getElem?_map, eg]; rfl), _, _, _, _, rfl, rfl, SqL.of hL, atI_nat hgv, ?_⟩
  refine ⟨_, _, rfl, SqT.of hga, rfl, _, _, rfl, _, _, rfl, rfl, ?_⟩
  have eG : sigs ts qs σ s = (sg.reads.lines.map fun l => (txAt qs σ s l).take 1).flatten := by unfold sigs; rw [eS]
  refine ⟨_, rfl, _, rfl, for_it walk_str (fun i τ H' => ∃ (a b : Option V), τ = [some (.ref m), some (.ref W), some (.ref va), some (.int (s : Nat)), some (.str sg.reads.s), some (.ref gq), some (.str (tx (((sg.reads.lines.take i).map fun l => (txAt qs σ s l).take 1).flatten))), a, b] ∧ Same H H') ⟨_, _, rfl, Same.refl _⟩ (fun _ _ _ _ _ => trivial) ?_ ?_⟩
  · rintro i x τ G1 G2 hi ⟨a, b, rfl, sm⟩ ⟨rfl, c, hc, rfl⟩
    obtain ⟨l, hl, hin⟩ := rd_at sg.reads hc
    have hll := List.mem_of_getElem? hl
    have lin := sg_lines sgok tok.i1 hll
    have fi := find_in yok al et lin
    refine ⟨_, rfl, _, _, _, _, rfl, rfl, SqT.of (sm _ _ hW), rfl, I, rfl, .inr ⟨kv, .inl (sm _ _ hI)⟩, _, rfl, _, rfl, _, _, rfl, hin, (by decide : 1 ≤ 640), _, _, rfl, rfl, sz rfl, fun q1 hq1 => ?_⟩
    have k1 := same_new hq1 (.tup [.int (s : Nat), .int ((l : Int) + 1 - 1)])
    refine ⟨_, .inr ⟨kv, kL2 (s, l), q1, .inl (k1 _ _ (sm _ _ hI)), rfl, upd_same.trans (congrArg (fun n : Int => some (HO.tup [V.int (s : Nat), V.int n])) (show (l : Int) + 1 - 1 = (l : Int) by omega)), rfl⟩, ?_⟩
    rw [wI (s, l), fi]
    have e9 : sg.reads.lines.take (i + 1) = sg.reads.lines.take i ++ [l] := by rw [List.take_succ, hl]; rfl
    have l2 : sg.reads.lines.length ≤ 2 := by cases sg.reads <;> decide
    have f1 := flat1 (g := fun l => txAt qs σ s l) (sg.reads.lines.take i)
    rw [List.length_take] at f1
    have fin : ∀ (b : Option V) (H' : Hp), Same H H' → ∃ (a b' : Option V), [some (V.ref m), some (V.ref W), some (V.ref va), some (V.int (s : Nat)), some (V.str sg.reads.s), some (V.ref gq), some (V.str (tx (((sg.reads.lines.take i).map fun l => (txAt qs σ s l).take 1).flatten) ++ tx ((txAt qs σ s l).take 1))), some (V.str ⟨#[c]⟩), b] = [some (V.ref m), some (V.ref W), some (V.ref va), some (V.int (s : Nat)), some (V.str sg.reads.s), some (V.ref gq), some (V.str (tx (((sg.reads.lines.take (i + 1)).map fun l => (txAt qs σ s l).take 1).flatten))), a, b'] ∧ Same H H' := fun b H' s' => by
      refine ⟨some (V.str ⟨#[c]⟩), b, ?_, s'⟩
      rw [e9, List.map_append, List.flatten_append, ← tx_app]
      simp only [List.map_cons, List.map_nil, List.flatten_cons, List.flatten_nil, List.append_nil]
    have sm1 : Same H _ := sm.trans' k1
    by_cases z : (s, l) = (0, 0)
    · have ex : txAt qs σ s l = σ.rs := if_pos z
      rw [ex] at fin
      rw [if_pos z]
      refine ⟨_, rfl, _, rfl, _, rfl, iteTd rfl ?_⟩
      refine ⟨_, rfl, _, _, _, _, rfl, rfl, SqT.of (sm1 _ _ h1), rfl, 1, rfl, tx σ.rs, rfl, by rw [tx_len]; exact Nat.le_trans so.rb (by decide), ?_⟩
      rw [show (1 : Int) = ((1 : Nat) : Int) from rfl, cut_to]
      refine ⟨_, _, rfl, rfl, ?_, fin _ _ sm1⟩
      rw [tx_len, tx_len, List.length_take]
      exact Nat.le_trans (show _ ≤ 100 by omega) (by decide)
    · have lx : ixIn qs s l < σ.ct.length := by
        obtain ⟨p, hp, _⟩ := ixIn_at (al s t l et lin z)
        have := lt_len hp
        rw [so.lc, sr]
        exact this
      have ex : txAt qs σ s l = σ.ct[ixIn qs s l] := by
        unfold txAt
        rw [if_neg z, List.getElem?_eq_getElem lx]
        rfl
      rw [ex] at fin
      rw [if_neg z]
      refine ⟨_, rfl, _, rfl, _, rfl, iteFd rfl ?_⟩
      refine ⟨_, rfl, _, _, _, _, rfl, rfl, SqT.of (sm1 _ _ h1), rfl, _, rfl, _, _, _, _, rfl, rfl, SqT.of (sm1 _ _ h3), atI_nat (tV_at lx), 1, rfl, tx (σ.ct[ixIn qs s l]), rfl, by rw [tx_len]; exact Nat.le_trans (so.cb _ (List.getElem_mem lx)) (by decide), ?_⟩
      rw [show (1 : Int) = ((1 : Nat) : Int) from rfl, cut_to]
      refine ⟨_, _, rfl, rfl, ?_, fin _ _ sm1⟩
      rw [tx_len, tx_len, List.length_take]
      exact Nat.le_trans (show _ ≤ 100 by omega) (by decide)
  · rintro τ H1 ⟨a, b, rfl, sm⟩
    have ez : sg.reads.s.cps.size = sg.reads.lines.length := reads_len sg.reads
    rw [ez, List.take_length, ← eG]
    have l2 : sg.reads.lines.length ≤ 2 := by cases sg.reads <;> decide
    have lq : (sigs ts qs σ s).length ≤ sg.reads.lines.length := by
      rw [eG]
      exact flat1 (g := fun l => txAt qs σ s l) sg.reads.lines
    refine ⟨_, rfl, _, rfl, by rw [tx_len]; exact Nat.le_trans (Nat.le_trans lq l2) (by decide), _, rfl, _, rfl, by rw [reads_len]; exact Nat.le_trans l2 (by decide), _, _, rfl, rfl, _, rfl, ?_⟩
    by_cases z : (sigs ts qs σ s).length = sg.reads.lines.length
    · obtain ⟨vm, v12⟩ := val_many sg.reads z
      have lr : valB (sigs ts qs σ s) < sg.rows.length := by rw [sgok.2.1]; exact vm
      have er : sg.rows[valB (sigs ts qs σ s)]? = some sg.rows[valB (sigs ts qs σ s)] := List.getElem?_eq_getElem lr
      obtain ⟨rv, hrv, rA⟩ := paired_at prw er
      have fin : ∀ H', Same H H' → Q rv H' := fun H' s' => q _ _ s' (by
        unfold rowS
        rw [eS, if_pos z, er]
        exact rA.keep (Tups.of s'))
      refine iteFd (by rw [tx_len, reads_len, z]; simp) ⟨_, rfl, ?_⟩
      refine ⟨_, rfl, _, rfl, by rw [reads_len]; exact Nat.le_trans l2 (by decide), rfl, _, rfl, ?_⟩
      rw [reads_len]
      rcases v12 with v1 | v2
      · refine iteTd (by rw [← z, v1]; rfl) ?_
        refine ⟨sz rfl, fun L1 hL1 => ?_⟩
        have k1 := same_new hL1 (.lst [.str "0", .str "1"])
        obtain ⟨y, e1, e2, e3⟩ := idx1 v1
        exact ⟨.inl ⟨rfl, _, SqL.of upd_same⟩, _, rfl, L1, _, _, _, y, rfl, rfl, SqL.of upd_same, rfl, rfl, e1, e2, e3, _, _, _, _, rfl, rfl, SqL.of (k1 _ _ (sm _ _ hgq)), atI_nat hrv, fin _ (sm.trans' k1)⟩
      · refine iteFd (by rw [← z, v2]; rfl) ?_
        refine ⟨sz rfl, fun L1 hL1 => ?_⟩
        have k1 := same_new hL1 (.lst [.str "00", .str "01", .str "10", .str "11"])
        obtain ⟨y, e1, e2, e3⟩ := idx2 v2
        exact ⟨.inl ⟨rfl, _, SqL.of upd_same⟩, _, rfl, L1, _, _, _, y, rfl, rfl, SqL.of upd_same, rfl, rfl, e1, e2, e3, _, _, _, _, rfl, rfl, SqL.of (k1 _ _ (sm _ _ hgq)), atI_nat hrv, fin _ (sm.trans' k1)⟩
    · refine iteTd (by rw [tx_len, reads_len]; simp; omega) (q _ _ sm ?_)
      unfold rowS
      rw [eS, if_neg z]
      rfl
end
end FY


set_option Elab.async false
set_option linter.all false
set_option maxRecDepth 100000
set_option maxHeartbeats 4000000
namespace FY
open PySem L2 FYR
def spCanL : Sp := fun vs H Q _ => ∃ (A : List Addr) (ph wv v zv : V) (σ : Sta) (s : Nat) (z : Option (List Nat)) (ts : List Stn) (qs : List Pipe) (bg : Bg), vs = [ph, wv, v, .int (s : Nat), zv] ∧ LK A H ph wv ts qs bg ∧ StaA H v σ ∧ StOk ts qs σ ∧ s < ts.length ∧ SzA H zv z ∧ SzOk qs z ∧ ∀ H', Same H H' → Q (.bl (canS ts qs σ s z)) H'
def spAbleL : Sp := fun vs H Q _ => ∃ (A : List Addr) (ph wv v zv : V) (σ : Sta) (z : Option (List Nat)) (ts : List Stn) (qs : List Pipe) (bg : Bg), vs = [ph, wv, v, zv] ∧ LK A H ph wv ts qs bg ∧ StaA H v σ ∧ StOk ts qs σ ∧ SzA H zv z ∧ SzOk qs z ∧ ∀ H' p, Same H H' → H p = none → H' p = some (.lst (nV (ableS ts qs σ z))) → Q (.ref p) H'
section
variable {P : Program} {w : World} {K : PySem.W.Frag} {mg : Str → Option Value} {base : Heap} {aS a1 a2 aL aT : Addr} {f : Addr} {fd : FuncData} {C CD CY : Addr} {mc : Value}
abbrev s_law_can : Stmt := top 80
abbrev N_law_can : List Str := ["_law_plan_here", "_law_wires_here", "_law_here", "_law_at", "_law_room", "_law_row_here", "_law_line", "_law_text", "_law_spot"]
theorem sc_law_can : FnScope N_law_can ["_law_plan_here", "_law_wires_here", "_law_here", "_law_at", "_law_room"] (defScope s_law_can) := ⟨rfl, rfl, rfl, by decide +kernel, rfl, by decide +kernel, by decide +kernel⟩
theorem ok_law_can (F : Fun K "_law_can" "_law_can" s_law_can f fd) (T : Txt K mg aS a1 a2) (c__law_row_at : C8.Cal P w K mg base 1 "_law_row_at" spRowAt []) : FnOk P w K mg base CX0 2 f fd ["_law_plan_here", "_law_wires_here", "_law_here", "_law_at", "_law_room"] spCanL := by
  refine F.ok sc_law_can (fun vs H Q E h => ?_) (fun cdv A0 outer s0 H vs Q E hr h => ?_)
  · obtain ⟨A, ph, wv, v, zv, σ, s, z, ts, qs, bg, rfl, _⟩ := h
    rfl
  obtain ⟨A, ph, wv, v, zv, σ, s, z, ts, qs, bg, rfl, lk, sa, so, hs, sz1, szo, q⟩ := h
  refine ⟨_, (pss_cons (ps_set (i := 5) sc_law_can.nd rfl (Or.inl rfl) (C8.pe_c c__law_row_at hr (by decide) rfl (pa_cons (pv 0) (pa_cons (pv 1) (pa_cons (pv 2) (pa_cons (pv 3) pa_nil))))))
        (pss_cons (ps_if (PW.pt (pw_or (pt_cmp (pc_isN (pv 5))) (pw_or1 (pt_cmp (pc_isN (pv 4))))))
        (pss_one (ps_ret (pe_cmp (pc_notN (pv 5)))))
        pss_nil)
        (pss_cons (ps_for PassesOwn.never rfl (pi_enumT K rfl rfl T.b_enumerate (pa_cons (pe_ix (kIxT K rfl) (pv 5) pe_int (fun _ _ => rfl)) pa_nil)) (kTupG (n := 2) K rfl rfl (pgs_cons (pg_name (i := 6) sc_law_can.nd rfl (Or.inl rfl)) (pgs_cons (pg_name (i := 7) sc_law_can.nd rfl (Or.inl rfl)) pgs_nil)))
        (pss_cons (ps_set (i := 8) sc_law_can.nd rfl (Or.inl rfl) (pe_dget1 (hu1 hr) (pe_ix (kIxT K rfl) (pv 1) pe_int (fun _ _ => rfl)) (pe_tup (pa_cons (pv 3) (pa_cons (pv 6) pa_nil))) ⟨rfl, rfl, rfl, rfl⟩))
        (pss_one (ps_if (PW.pt (pw_and (pt_cmpR op_ne (pv 7) pe_str (nomark _)) (pw_and (pt_cmp (pc_notN (pv 8))) (pw_and1 (pt_cmpR op_gt (pe_op op_add (pe_callB call_len_str rfl T.b_len bt_len (pa_cons (pe_ix (kIxT K rfl) (pe_ix (kIxT K rfl) (pv 2) pe_int (fun _ _ => rfl)) (pv 8) (fun _ _ => rfl)) pa_nil)) (pe_callB call_len_str rfl T.b_len bt_len (pa_cons (pv 7) pa_nil))) (pe_ix (kIxT K rfl) (pv 4) (pv 8) (fun _ _ => rfl)) (nomark _))))))
        (pss_one (ps_ret pe_bl))
        pss_nil))))
        (pss_one (ps_ret pe_bl))))), ?_⟩
  refine ⟨_, rfl, _, rfl, _, rfl, _, rfl, A, ph, wv, v, σ, s, ts, qs, bg, rfl, lk, sa, so, hs, fun H1 u s1 ru => ?_⟩
  unfold canS at q
  cases zr : rowS ts qs σ s with
  | none =>
    rw [zr] at ru q
    obtain rfl : u = .non := ru
    exact ⟨_, rfl, _, rfl, iteTd (by decide) (iteT ⟨_, rfl, q _ s1⟩)⟩
  | some r =>
    rw [zr] at ru q
    obtain ⟨ra, rg, rfl, hra, hrg⟩ := ru
    have et : ts[s]? = some ts[s] := List.getElem?_eq_getElem hs
    have rok := row_in so et (lk.yo.ok _ (List.getElem_mem hs)) (by rw [lk.sr]; exact zr)
    cases z with
    | none =>
      obtain rfl : zv = .non := sz1
      exact ⟨_, rfl, _, rfl, iteFd (by simp) ⟨_, rfl, _, rfl, iteTd (by decide) ⟨_, rfl, q _ s1⟩⟩⟩
    | some zs =>
      obtain ⟨Z, rfl, hZ⟩ := sz1
      have q : ∀ H', Same H H' → Q (.bl (roomS qs σ s r zs)) H' := q
      have szo : zs.length = (srt qs).length := szo
      have sr := lk.sr
      obtain ⟨va, vp, vq, vr, rfl, h1, h2, h3, h4⟩ := sa
      obtain ⟨_, ⟨W, I, O, E1, kv, kw, es, rfl, hW, hI, wI, hO, wO, nE, hE, pE⟩, yok, _⟩ := lk
      refine ⟨_, rfl, _, rfl, iteFd (by simp) ⟨_, rfl, _, rfl, iteFd (by simp) ?_⟩⟩
      refine ⟨_, rfl, _, _, _, _, rfl, rfl, SqT.of hra, rfl, _, _, rfl, SqT.of hrg, for_it walk_enumT (fun i τ H' => (∃ a b c, τ = [some ph, some (.ref W), some (.ref va), some (.int (s : Nat)), some (.ref Z), some (.ref ra), a, b, c]) ∧ Same H H' ∧ H' rg = some (.tup (tV r.gives)) ∧ ∀ o < i, rmAt qs σ s r zs o = true) ⟨⟨_, _, _, rfl⟩, s1, hrg, fun o ho => absurd ho (Nat.not_lt_zero _)⟩ (fun i τ H' _ z => SqT.of z.2.2.1) ?_ ?_⟩
      · rintro i x τ G1 G2 hi2 ⟨⟨a, b, c, rfl⟩, sm, hg1, al⟩ ⟨T0, i1, i2, rfl, hT0, rfl, hi1, hi2'⟩
        obtain rfl : V.int (i : Nat) = i1 := Option.some.inj hi1
        have hg : ∃ g, r.gives[i]? = some g ∧ i2 = .str (tx g) := by
          have hi2' : (tV r.gives)[i]? = some i2 := hi2'
          unfold tV at hi2'
          rw [List.getElem?_map] at hi2'
          cases z : r.gives[i]? with
          | none => rw [z] at hi2'; cases hi2'
          | some g => rw [z] at hi2'; exact ⟨g, rfl, (Option.some.inj hi2').symm⟩
        obtain ⟨g, hg, rfl⟩ := hg
        have k0 := same_new hT0 (.tup [.int (i : Nat), .str (tx g)])
        have s0' := sm.trans' k0
        have eg : gvAt r i = g := by unfold gvAt; rw [hg]; rfl
        have ilg : i < r.gives.length := lt_len hg
        refine ⟨_, _, rfl, SqT.of upd_same, rfl, _, _, rfl, _, _, rfl, rfl, ?_⟩
        refine ⟨_, rfl, _, _, _, _, rfl, rfl, SqT.of (s0' _ _ hW), rfl, O, rfl, .inr ⟨kw, .inl (s0' _ _ hO)⟩, _, rfl, _, rfl, sz rfl, fun q1 hq1 => ?_⟩
        have k1 := same_new hq1 (.tup [.int (s : Nat), .int (i : Nat)])
        have s3 := s0'.trans' k1
        refine ⟨_, .inr ⟨kw, kL2 (s, i), q1, .inl (s3 _ _ hO), rfl, upd_same, rfl⟩, ?_⟩
        rw [wO (s, i)]
        have hg3 := k1 _ _ (k0 _ _ hg1)
        have fin : ∀ b' c' : Option V, rmAt qs σ s r zs i = true → (∃ a b c, [some ph, some (V.ref W), some (V.ref va), some (V.int (s : Nat)), some (V.ref Z), some (V.ref ra), some (V.int (i : Nat)), b', c'] = [some ph, some (V.ref W), some (V.ref va), some (V.int (s : Nat)), some (V.ref Z), some (V.ref ra), a, b, c]) ∧ Same H _ ∧ _ ∧ ∀ o < i + 1, rmAt qs σ s r zs o = true := fun b' c' rm => ⟨⟨_, _, _, rfl⟩, s3, hg3, fun o ho => by
          by_cases z : o = i
          · rw [z]; exact rm
          · exact al o (by omega)⟩
        have g2 : g.length ≤ 2 := rok.2.1 g (List.mem_of_getElem? hg)
        refine ⟨_, rfl, rfl, _, rfl, ?_⟩
        by_cases zg : g = []
        · subst zg
          refine iteFd (by decide +kernel) (iteF (fin _ _ ?_))
          unfold rmAt
          rw [eg]
          split <;> simp
        · have ne : ¬ V.str (tx g) = V.str "" := fun y => by
            have y1 : tx g = "" := by injection y
            have y2 : (tx g).length = 0 := by rw [y1]; rfl
            rw [tx_len] at y2
            exact zg (List.length_eq_zero_iff.mp y2)
          refine iteTd (by rw [decide_eq_false ne]; rfl) ⟨_, rfl, _, rfl, ?_⟩
          cases zf : qs.findIdx? (fun p => decide (pb p = (s, i))) with
          | none => exact iteFd (by decide) (iteF (fin _ _ (by unfold rmAt; rw [zf])))
          | some j =>
            obtain ⟨j9, _, _⟩ := List.findIdx?_eq_some_iff_getElem.mp zf
            have lc : j < σ.ct.length := by rw [so.lc, sr]; exact j9
            have lzj : j < zs.length := by rw [szo, sr]; exact j9
            have er : rmAt qs σ s r zs i = decide (g = [] ∨ σ.ct[j].length + g.length ≤ zs[j]) := by
              unfold rmAt
              rw [zf, eg]
              simp [List.getElem?_eq_getElem lc, List.getElem?_eq_getElem lzj]
            have cb := so.cb _ (List.getElem_mem lc)
            refine iteTd (by simp) ⟨_, rfl, _, _, _, _, rfl, rfl, SqT.of (s3 _ _ h1), rfl, _, rfl, _, _, _, _, rfl, rfl, SqT.of (s3 _ _ h3), atI_nat (tV_at lc), _, rfl, by rw [tx_len]; exact Nat.le_trans cb (by decide), _, rfl, _, rfl, by rw [tx_len]; exact Nat.le_trans g2 (by decide), _, _, rfl, rfl, _, rfl, _, rfl, _, _, _, _, rfl, rfl, SqT.of (s3 _ _ hZ), atI_nat (nV_at lzj), _, _, rfl, rfl, _, rfl, ?_⟩
            rw [tx_len, tx_len]
            by_cases zr : σ.ct[j].length + g.length ≤ zs[j]
            · exact iteFd (by simp; omega) (fin _ _ (by rw [er]; simp [zr]))
            · refine iteTd (by simp; omega) ?_
              have e : roomS qs σ s r zs = false := by
                rw [room_eq]
                cases y : (List.range r.gives.length).all (rmAt qs σ s r zs) with
                | false => rfl
                | true =>
                  have := List.all_eq_true.mp y i (List.mem_range.mpr (lt_len hg))
                  rw [er] at this
                  simp [zg, zr] at this
              rw [e] at q
              exact q _ s3
      · rintro τ H2 ⟨⟨a, b, c, rfl⟩, sm, hg2, al⟩
        have e : roomS qs σ s r zs = true := by
          rw [room_eq, List.all_eq_true]
          exact fun o ho => al o (by
            have := List.mem_range.mp ho
            unfold tV
            rw [List.length_map]
            exact this)
        rw [e] at q
        exact q _ sm
abbrev s_law_able : Stmt := top 81
abbrev N_law_able : List Str := ["_law_plan_here", "_law_wires_here", "_law_here", "_law_room", "_law_at"]
theorem sc_law_able : FnScope N_law_able ["_law_plan_here", "_law_wires_here", "_law_here", "_law_room"] (defScope s_law_able) := ⟨rfl, rfl, rfl, by decide +kernel, rfl, by decide +kernel, by decide +kernel⟩
theorem ok_law_able (F : Fun K "_law_able" "_law_able" s_law_able f fd) (T : Txt K mg aS a1 a2) (c__law_can : C8.Cal P w K mg base 2 "_law_can" spCanL []) : FnOk P w K mg base CX0 3 f fd ["_law_plan_here", "_law_wires_here", "_law_here", "_law_room"] spAbleL := by
  refine F.ok sc_law_able (fun vs H Q E h => ?_) (fun cdv A0 outer s0 H vs Q E hr h => ?_)
  · obtain ⟨A, ph, wv, v, zv, σ, z, ts, qs, bg, rfl, _⟩ := h
    rfl
  obtain ⟨A, ph, wv, v, zv, σ, z, ts, qs, bg, rfl, lk, sa, so, sz1, szo, q⟩ := h
  have lk0 := lk
  obtain ⟨⟨m, Lf, M, d, us, ws, rfl, hm, nF, nM, hF, pF, hM, pM, hb⟩, _, yok, sr⟩ := lk
  have lus := paired_len2 pF
  have t12 := yok.m2
  refine ⟨_, (pss_one (ps_ret (pe_lc (own := [("_law_at", 4)]) rfl sc_law_able.nd (pi_range1 rfl T.b_range (pa_cons (pe_callB (kLen K rfl) rfl T.b_len bt_len (pa_cons (pe_dget (hu1 hr) (pv 0) pe_str (fun _ _ => rfl)) pa_nil)) pa_nil)) (blkOk_by (N := N_law_able) (sc := defScope s_law_able) (by decide +kernel)) (fun _ _ _ _ _ => (pg_name (i := 4) sc_law_able.nd rfl (Or.inl rfl))) (fun _ _ _ _ _ => pts_one (pt_val (C8.pe_c c__law_can hr (by decide) rfl (pa_cons (pv 0) (pa_cons (pv 1) (pa_cons (pv 2) (pa_cons (pv 4) (pa_cons (pv 3) pa_nil)))))))) (fun _ _ _ _ _ => (pv 4))))), ?_⟩
  refine ⟨_, rfl, m, .ref Lf, rfl, gS hm, _, _, rfl, .inl (SqL.of hF), ?_⟩
  rw [lus]
  refine ⟨ts.length, rfl, by omega, by omega, fun D hD => lc_it walk_range (fun i H' => Same H H' ∧ H' D = some (.lst (nV ((List.range i).filter fun s => canS ts qs σ s z)))) ⟨same_new hD _, upd_same⟩ (fun _ _ _ _ => trivial) ?_ ?_⟩
  · rintro i x H1 H2 hi ⟨sm, hd⟩ ⟨rfl, hx⟩
    have hx : x = .int (i : Int) := by rw [hx]; exact congrArg V.int (Int.zero_add _)
    subst hx
    have hil : i < ts.length := by omega
    refine ⟨rfl, _, rfl, _, rfl, _, rfl, _, rfl, _, rfl, A, .ref m, wv, v, zv, σ, i, z, ts, qs, bg, rfl, lk0.same sm, sa.keep (Tups.of sm), so, hil, sz1.keep (Tups.of sm), szo, fun H3 s3 => ⟨_, rfl, ?_⟩⟩
    cases zc : canS ts qs σ i z with
    | true =>
      refine iteT ⟨_, rfl, _, s3 _ _ hd, ?_, same_at (sm.trans' s3) hD, ?_⟩
      · unfold nV
        rw [List.length_map]
        exact Nat.lt_of_le_of_lt (List.length_filter_le _ _) (Nat.lt_of_le_of_lt (by rw [List.length_range]; omega) (show 12 < sizeLine by decide))
      · rw [upd_same, List.range_succ, List.filter_append]
        unfold nV
        rw [List.map_append]
        simp [zc]
    | false =>
      refine iteF ⟨sm.trans' s3, ?_⟩
      rw [s3 _ _ hd, List.range_succ, List.filter_append]
      simp [zc]
  · rintro H1 ⟨sm, hd⟩
    refine q _ _ sm hD ?_
    rw [hd]
    rfl
end
end FY


set_option Elab.async false
set_option linter.all false
set_option maxRecDepth 100000
set_option maxHeartbeats 4000000
namespace FY
open PySem L2 FYR
def spBehindL : Sp := fun vs H Q _ => ∃ (A : List Addr) (ph wv v : V) (σ : Sta) (s : Nat) (r : Rw) (ts : List Stn) (qs : List Pipe) (bg : Bg), vs = [ph, wv, v, .int (s : Nat)] ∧ LK A H ph wv ts qs bg ∧ StaA H v σ ∧ StOk ts qs σ ∧ FlOk σ ∧ s < ts.length ∧ rowS ts qs σ s = some r ∧ ∀ H' u, Same H H' → StaA H' u (aftS ts qs (exitsOf ts qs) σ s r) → Q u H'
section
variable {P : Program} {w : World} {K : PySem.W.Frag} {mg : Str → Option Value} {base : Heap} {aS a1 a2 aL aT : Addr} {f : Addr} {fd : FuncData} {C CD CY : Addr} {mc : Value}
abbrev s_law_behind : Stmt := top 82
abbrev N_law_behind : List Str := ["_law_plan_here", "_law_wires_here", "_law_here", "_law_at", "_law_gives", "_law_goal", "_law_ticks", "_law_stands", "_law_texts", "_law_flows_now", "_law_rest", "_law_line", "_law_spot", "_law_text"]
theorem sc_law_behind : FnScope N_law_behind ["_law_plan_here", "_law_wires_here", "_law_here", "_law_at"] (defScope s_law_behind) := ⟨rfl, rfl, rfl, by decide +kernel, rfl, by decide +kernel, by decide +kernel⟩
theorem ok_law_behind (F : Fun K "_law_behind" "_law_behind" s_law_behind f fd) (T : Txt K mg aS a1 a2) (c__law_row_at : C8.Cal P w K mg base 1 "_law_row_at" spRowAt []) : FnOk P w K mg base CX0 2 f fd ["_law_plan_here", "_law_wires_here", "_law_here", "_law_at"] spBehindL := by
  refine F.ok sc_law_behind (fun vs H Q E h => ?_) (fun cdv A0 outer s0 H vs Q E hr h => ?_)
  · obtain ⟨A, ph, wv, v, σ, s, r, ts, qs, bg, rfl, _⟩ := h
    rfl
  obtain ⟨A, ph, wv, v, σ, s, r, ts, qs, bg, rfl, lk, sa, so, fb, hs, er, q⟩ := h
  have lk0 := lk
  have al := lk.al
  obtain ⟨⟨m, Lf, M, d, us, ws, rfl, hm, nF, nM, hF, pF, hM, pM, hb⟩, ⟨W, I, O, E1, kv, kw, es, rfl, hW, hI, wI, hO, wO, nE, hE, pE⟩, yo, sr⟩ := lk
  have sa0 := sa
  obtain ⟨va, vp, vq, vr, rfl, h1, h2, h3, h4⟩ := sa
  have et : ts[s]? = some ts[s] := List.getElem?_eq_getElem hs
  obtain ⟨t, htt⟩ : ∃ t, t = ts[s] := ⟨_, rfl⟩
  rw [← htt] at et
  have tok := yo.ok t (List.mem_of_getElem? et)
  have rok := row_in so et tok (by rw [sr]; exact er)
  refine ⟨_, (pss_cons (ps_asg (C8.pe_c c__law_row_at hr (by decide) rfl (pa_cons (pv 0) (pa_cons (pv 1) (pa_cons (pv 2) (pa_cons (pv 3) pa_nil))))) (kTupG (n := 3) K rfl rfl (pgs_cons (pg_name (i := 4) sc_law_behind.nd rfl (Or.inl rfl)) (pgs_cons (pg_name (i := 5) sc_law_behind.nd rfl (Or.inl rfl)) (pgs_cons (pg_name (i := 6) sc_law_behind.nd rfl (Or.inl rfl)) pgs_nil)))))
        (pss_cons (ps_par3 (i := 7) (j := 8) (l := 9) rfl sc_law_behind.nd rfl rfl rfl (by decide) (by decide) (by decide) rfl rfl rfl (pa_cons (pe_callTy call_list_of rfl T.b_list bt_list (pa_cons (pe_ix (kIxT K rfl) (pv 2) pe_int (fun _ _ => rfl)) pa_nil)) (pa_cons (pe_callTy call_list_of rfl T.b_list bt_list (pa_cons (pe_ix (kIxT K rfl) (pv 2) pe_int (fun _ _ => rfl)) pa_nil)) (pa_cons (pe_callTy call_list_of rfl T.b_list bt_list (pa_cons (pe_ix (kIxT K rfl) (pv 2) pe_int (fun _ _ => rfl)) pa_nil)) pa_nil))) rfl)
        (pss_cons (ps_set (i := 10) sc_law_behind.nd rfl (Or.inl rfl) (pe_ix (kIxT K rfl) (pv 2) pe_int (fun _ _ => rfl)))
        (pss_cons (ps_for PassesOwn.never rfl (pi_str (pe_ix (kIxT K rfl) (pe_ix (kIxL K rfl) (pe_ix (kIxT K rfl) (pe_ix (kIxL K rfl) (pe_dget (hu1 hr) (pv 0) pe_str (fun _ _ => rfl)) (pv 3) (fun _ _ => rfl)) pe_int (fun _ _ => rfl)) (pe_ix (kIxL K rfl) (pv 7) (pv 3) (fun _ _ => rfl)) (fun _ _ => rfl)) pe_int (fun _ _ => rfl))) (pg_name (i := 11) sc_law_behind.nd rfl (Or.inl rfl))
        (pss_cons (ps_set (i := 12) sc_law_behind.nd rfl (Or.inl rfl) (pe_dget1 (hu1 hr) (pe_ix (kIxT K rfl) (pv 1) pe_int (fun _ _ => rfl)) (pe_tup (pa_cons (pv 3) (pa_cons (pe_op op_sub (pe_callTy call_int_str rfl T.b_int bt_int (pa_cons (pv 11) pa_nil)) pe_int) pa_nil))) ⟨rfl, rfl, rfl, rfl⟩))
        (pss_one (ps_if (pt_cmp (pc_isN (pv 12)))
        (pss_one (ps_set (i := 10) sc_law_behind.nd rfl (Or.inl rfl) (pe_slice sl_str (pv 10) (po_some pe_int) po_none)))
        (pss_one (ps_asg (pe_slice sl_str (pe_ix (kIxL K rfl) (pv 8) (pv 12) (fun _ _ => rfl)) (po_some pe_int) po_none) (pg_sub (pv 8) (pv 12) set_list)))))))
        (pss_cons (ps_for PassesOwn.never rfl (pi_enumT K rfl rfl T.b_enumerate (pa_cons (pv 4) pa_nil)) (kTupG (n := 2) K rfl rfl (pgs_cons (pg_name (i := 11) sc_law_behind.nd rfl (Or.inl rfl)) (pgs_cons (pg_name (i := 13) sc_law_behind.nd rfl (Or.inl rfl)) pgs_nil)))
        (pss_cons (ps_set (i := 12) sc_law_behind.nd rfl (Or.inl rfl) (pe_dget1 (hu1 hr) (pe_ix (kIxT K rfl) (pv 1) pe_int (fun _ _ => rfl)) (pe_tup (pa_cons (pv 3) (pa_cons (pv 11) pa_nil))) ⟨rfl, rfl, rfl, rfl⟩))
        (pss_one (ps_if (pt_cmp (pc_isN (pv 12)))
        (pss_one (ps_augS (pv 9) (kBm K rfl PySem.F.plainAttrs_list PySem.F.slot_list_index PySem.F.type_list_index (kIndexD K rfl (hu65 hr)) (pe_ix (kIxT K rfl) (pv 1) pe_int (fun _ _ => rfl)) (pa_cons (pe_tup (pa_cons (pv 3) (pa_cons (pv 11) pa_nil))) pa_nil)) (kGetL K rfl) (pv 13) ip_addS set_list))
        (pss_one (ps_augS (pv 8) (pv 12) (kGetL K rfl) (pv 13) ip_addS set_list))))))
        (pss_cons (ps_asg (pv 5) (pg_sub (pv 7) (pv 3) set_list))
        (pss_one (ps_ret (pe_tup (pa_cons (pe_callTy (kTupOf K rfl) rfl T.b_tuple bt_tuple (pa_cons (pv 7) pa_nil)) (pa_cons (pe_callTy (kTupOf K rfl) rfl T.b_tuple bt_tuple (pa_cons (pv 8) pa_nil)) (pa_cons (pv 10) (pa_cons (pe_callTy (kTupOf K rfl) rfl T.b_tuple bt_tuple (pa_cons (pv 9) pa_nil)) pa_nil))))))))))))), ?_⟩
  refine ⟨_, rfl, _, rfl, _, rfl, _, rfl, A, _, _, _, σ, s, ts, qs, bg, rfl, lk0, sa0, so, hs, fun H0 u s0' ru => ?_⟩
  rw [er] at ru
  obtain ⟨ra, rg, rfl, hra, hrg⟩ := ru
  refine ⟨_, _, rfl, SqT.of hra, rfl, _, _, rfl, _, _, rfl, _, _, rfl, rfl, ?_⟩
  refine ⟨_, rfl, _, _, _, _, rfl, rfl, SqT.of (s0' _ _ h1), atI_nat (i := 0) rfl, _, _, rfl, .inr (SqT.of (s0' _ _ h2)), fun S1 hS1 => ?_⟩
  have k1 := same_new hS1 (.lst (nV σ.sd))
  have s1 := s0'.trans' k1
  refine ⟨_, rfl, _, _, _, _, rfl, rfl, SqT.of (s1 _ _ h1), atI_nat (i := 1) rfl, _, _, rfl, .inr (SqT.of (s1 _ _ h3)), fun S2 hS2 => ?_⟩
  have k2 := same_new hS2 (.lst (tV σ.ct))
  have s2 := s1.trans' k2
  refine ⟨_, rfl, _, _, _, _, rfl, rfl, SqT.of (s2 _ _ h1), atI_nat (i := 3) rfl, _, _, rfl, .inr (SqT.of (s2 _ _ h4)), fun S3 hS3 => ⟨_, _, _, rfl, ?_⟩⟩
  have k3 := same_new hS3 (.lst (tV σ.fl))
  have s4 := s2.trans' k3
  have e1 := (k2.trans' k3) S1 _ upd_same
  have e2 := k3 S2 _ upd_same
  have e3 : (upd (upd (upd H0 S1 (.lst (nV σ.sd))) S2 (.lst (tV σ.ct))) S3 (.lst (tV σ.fl))) S3 = some (.lst (tV σ.fl)) := upd_same
  have hrg5 := (k1.trans' (k2.trans' k3)) _ _ hrg
  refine ⟨_, rfl, _, _, _, _, rfl, rfl, SqT.of (s4 _ _ h1), atI_nat (i := 2) rfl, ?_⟩
  have hS10 : H S1 = none := none_of s0' hS1
  have n12 : S1 ≠ S2 := ne_of_none upd_same hS2
  have n13 : S1 ≠ S3 := ne_of_none (k2 _ _ upd_same) hS3
  have n23 : S2 ≠ S3 := ne_of_none upd_same hS3
  have hn2 : H S2 = none := none_of s1 hS2
  have hn3 : H S3 = none := none_of s2 hS3
  generalize upd (upd (upd H0 S1 (.lst (nV σ.sd))) S2 (.lst (tV σ.ct))) S3 (.lst (tV σ.fl)) = H5 at *
  obtain ⟨u, hu, ta, L, wsx, rfl, hta, nL, hL, pL⟩ := paired_at pF et
  have ls : s < σ.sd.length := by rw [so.ls]; exact lt_len et
  have eg : σ.sd[s]? = some σ.sd[s] := List.getElem?_eq_getElem ls
  have lg := so.st s t _ et eg
  have esg : t.stgs[σ.sd[s]]? = some t.stgs[σ.sd[s]] := List.getElem?_eq_getElem lg
  obtain ⟨gv, hgv, ga, gq, gws, rfl, hga, ngq, hgq, prw⟩ := paired_at pL esg
  have sgok := tok.sg _ (List.getElem_mem lg)
  have eS : sgAt ts σ s = t.stgs[σ.sd[s]] := by unfold sgAt; rw [et, eg]; show (t.stgs[σ.sd[s]]?).getD _ = _; rw [esg]; rfl
  generalize hsg : t.stgs[σ.sd[s]] = sg at *
  refine ⟨_, rfl, m, .ref Lf, rfl, gS (s4 _ _ hm), _, rfl, _, _, _, _, rfl, rfl, SqL.of (s4 _ _ hF), atI_nat hu, _, _, _, _, rfl, rfl, SqT.of (s4 _ _ hta), rfl, _, rfl, _, rfl, _, _, _, _, rfl, rfl, SqL.of e1, atI_nat (nV_at ls), _, _, _, _, rfl, rfl, SqL.of (s4 _ _ hL), atI_nat hgv, _, _, _, _, rfl, rfl, SqT.of (s4 _ _ hga), atI_nat (i := 0) rfl, ?_⟩
  have lq : ∀ l ∈ sg.reads.lines, LineQ qs s l := fun l hl => all_line al et (sg_lines sgok tok.i1 hl)
  have PPs := fun ls : List Nat => pop_short qs s 100000 ls (σ.rs, σ.ct) so.rb so.cb
  have PPl := fun ls : List Nat => pop_len qs s ls (σ.rs, σ.ct)
  have lcq : σ.ct.length = qs.length := by rw [so.lc, sr]
  refine ⟨_, rfl, for_it walk_str (fun i τ H' => (∃ a b c, τ = [some (.ref m), some (.ref W), some (.ref va), some (.int (s : Nat)), some (.ref rg), some (.int (r.goal : Nat)), some (.int (r.ticks : Nat)), some (.ref S1), some (.ref S2), some (.ref S3), some (.str (tx ((sg.reads.lines.take i).foldl (pop1 qs s) (σ.rs, σ.ct)).1)), a, b, c]) ∧ Same H H' ∧ NL H5 H' ∧ H' S1 = some (.lst (nV σ.sd)) ∧ H' S2 = some (.lst (tV ((sg.reads.lines.take i).foldl (pop1 qs s) (σ.rs, σ.ct)).2)) ∧ H' S3 = some (.lst (tV σ.fl))) ⟨⟨_, _, _, rfl⟩, s4, NL.of (Same.refl _), e1, e2, e3⟩ (fun _ _ _ _ _ => trivial) ?_ ?_⟩
  · rintro i x τ G1 G2 hi ⟨⟨a, b, c', rfl⟩, sm, nl, g1, g2, g3⟩ ⟨rfl, c, hc, rfl⟩
    obtain ⟨l, hl, hin⟩ := rd_at sg.reads hc
    have hlm := List.mem_of_getElem? hl
    have fi := find_in yo al et (sg_lines sgok tok.i1 hlm)
    have eT : sg.reads.lines.take (i + 1) = sg.reads.lines.take i ++ [l] := by rw [List.take_succ, hl]; rfl
    have eF : (sg.reads.lines.take (i + 1)).foldl (pop1 qs s) (σ.rs, σ.ct) = pop1 qs s ((sg.reads.lines.take i).foldl (pop1 qs s) (σ.rs, σ.ct)) l := by rw [eT, List.foldl_append]; rfl
    obtain ⟨p1s, p2s⟩ := PPs (sg.reads.lines.take i)
    have plen := PPl (sg.reads.lines.take i)
    generalize hP0 : (sg.reads.lines.take i).foldl (pop1 qs s) (σ.rs, σ.ct) = P0 at *
    refine ⟨_, rfl, _, _, _, _, rfl, rfl, SqT.of (sm _ _ hW), rfl, I, rfl, .inr ⟨kv, .inl (sm _ _ hI)⟩, _, rfl, _, rfl, _, _, rfl, hin, (by decide : 1 ≤ 640), _, _, rfl, rfl, sz rfl, fun q1 hq1 => ?_⟩
    have k9 := same_new hq1 (.tup [.int (s : Nat), .int ((l : Int) + 1 - 1)])
    refine ⟨_, .inr ⟨kv, kL2 (s, l), q1, .inl (k9 _ _ (sm _ _ hI)), rfl, upd_same.trans (congrArg (fun n : Int => some (HO.tup [V.int (s : Nat), V.int n])) (show (l : Int) + 1 - 1 = (l : Int) by omega)), rfl⟩, ?_⟩
    rw [wI (s, l), fi]
    by_cases z : (s, l) = (0, 0)
    · rw [if_pos z]
      refine ⟨_, rfl, _, rfl, iteTd rfl ⟨_, rfl, 1, rfl, _, rfl, by rw [tx_len]; exact Nat.le_trans p1s (by decide), ?_⟩⟩
      have eP : pop1 qs s P0 l = (P0.1.drop 1, P0.2) := by unfold pop1; rw [if_pos z]
      rw [cut_from1]
      dsimp only
      rw [eF, eP]
      exact ⟨⟨_, _, _, rfl⟩, sm.trans' k9, nl.trans (NL.of k9), k9 _ _ g1, k9 _ _ g2, k9 _ _ g3⟩
    · rw [if_neg z]
      obtain ⟨pp, q1', q2, q3⟩ := ixIn_at ((lq l hlm).resolve_left z)
      have lj : ixIn qs s l < P0.2.length := by rw [plen]; show _ < σ.ct.length; rw [lcq]; exact lt_len q1'
      have eP : pop1 qs s P0 l = (P0.1, P0.2.set (ixIn qs s l) (P0.2[ixIn qs s l].drop 1)) := by unfold pop1; rw [if_neg z, List.getElem?_eq_getElem lj]; rfl
      refine ⟨_, rfl, _, rfl, iteFd rfl ⟨_, rfl, _, rfl, _, _, _, _, rfl, rfl, SqL.of (k9 _ _ g2), atI_nat (tV_at lj), 1, rfl, _, rfl, by rw [tx_len]; exact Nat.le_trans (p2s _ (List.getElem_mem lj)) (by decide), ?_⟩⟩
      rw [cut_from1]
      refine ⟨_, rfl, _, rfl, _, _, _, _, rfl, rfl, k9 _ _ g2, ixN_nat (by rw [tV_len]; exact lj), ?_⟩
      dsimp only
      rw [eF, eP, tV_set]
      exact ⟨⟨_, _, _, rfl⟩, same_at (sm.trans' k9) hn2, (nl.trans (NL.of k9)).trans (NL.at (k9 _ _ g2)), (upd_ne n12).trans (k9 _ _ g1), upd_same, (upd_ne n23.symm).trans (k9 _ _ g3)⟩
  rintro τ H6 ⟨⟨a, b, c, rfl⟩, sm, nl, g1, g2, g3⟩
  have ez : sg.reads.s.cps.size = sg.reads.lines.length := reads_len sg.reads
  rw [ez, List.take_length] at g2
  rw [ez, List.take_length]
  obtain ⟨p1s, p2s⟩ := PPs sg.reads.lines
  have plen := PPl sg.reads.lines
  have hPe : sg.reads.lines.foldl (pop1 qs s) (σ.rs, σ.ct) = (sgAt ts σ s).reads.lines.foldl (pop1 qs s) (σ.rs, σ.ct) := by rw [eS]
  generalize hP0 : sg.reads.lines.foldl (pop1 qs s) (σ.rs, σ.ct) = P0 at *
  have gs := giv_short qs (exitsOf ts qs) s r (gv_short rok)
  have gl := giv_len qs (exitsOf ts qs) s r
  have r2 : r.gives.length ≤ 2 := by rw [rok.1]; exact tok.o2
  have hrg6 := nl.tups _ _ hrg5
  refine ⟨_, rfl, _, _, rfl, SqT.of hrg6, for_it walk_enumT (fun i τ H' => (∃ a b c, τ = [some (.ref m), some (.ref W), some (.ref va), some (.int (s : Nat)), some (.ref rg), some (.int (r.goal : Nat)), some (.int (r.ticks : Nat)), some (.ref S1), some (.ref S2), some (.ref S3), some (.str (tx P0.1)), a, b, c]) ∧ Same H H' ∧ NL H5 H' ∧ H' S1 = some (.lst (nV σ.sd)) ∧ H' S2 = some (.lst (tV ((List.range i).foldl (giv1 qs (exitsOf ts qs) s r) (P0.2, σ.fl)).1)) ∧ H' S3 = some (.lst (tV ((List.range i).foldl (giv1 qs (exitsOf ts qs) s r) (P0.2, σ.fl)).2))) ⟨⟨_, _, _, rfl⟩, sm, nl, g1, g2, g3⟩ (fun i τ H' _ z => SqT.of (z.2.2.1.tups _ _ hrg5)) ?_ ?_⟩
  · rintro i x τ G1 G2 hi ⟨⟨a, b, c, rfl⟩, sm, nl, g1, g2, g3⟩ ⟨T0, i1, i2, rfl, hT0, rfl, hi1, hi2'⟩
    obtain rfl : V.int (i : Nat) = i1 := Option.some.inj hi1
    obtain ⟨g, hg, rfl⟩ := List.getElem?_map_some hi2'
    have eg : gvAt r i = g := by unfold gvAt; rw [hg]; rfl
    have gl2 : g.length ≤ 2 := rok.2.1 g (List.mem_of_getElem? hg)
    have ig := lt_len hg
    have io : i < t.outs := by rw [← rok.1]; exact ig
    have eF : (List.range (i + 1)).foldl (giv1 qs (exitsOf ts qs) s r) (P0.2, σ.fl) = giv1 qs (exitsOf ts qs) s r ((List.range i).foldl (giv1 qs (exitsOf ts qs) s r) (P0.2, σ.fl)) i := by rw [List.range_succ, List.foldl_append]; rfl
    obtain ⟨s1', s2'⟩ := gs (List.range i) (P0.2, σ.fl) 100000 p2s fb
    obtain ⟨l1, l2⟩ := gl (List.range i) (P0.2, σ.fl)
    rw [List.length_range] at s1' s2'
    generalize hQ0 : (List.range i).foldl (giv1 qs (exitsOf ts qs) s r) (P0.2, σ.fl) = Q0 at *
    have k0 := same_new hT0 (.tup [.int (i : Nat), .str (tx g)])
    have sm0 := sm.trans' k0
    refine ⟨_, _, rfl, SqT.of upd_same, rfl, _, _, rfl, _, _, rfl, rfl, ?_⟩
    refine ⟨_, rfl, _, _, _, _, rfl, rfl, SqT.of (sm0 _ _ hW), rfl, O, rfl, .inr ⟨kw, .inl (sm0 _ _ hO)⟩, _, rfl, _, rfl, sz rfl, fun p3 hp3 => ?_⟩
    have k3 := same_new hp3 (.tup [.int (s : Nat), .int (i : Nat)])
    have k03 := k0.trans' k3
    have sm3 := sm.trans' k03
    have nl3 := nl.trans (NL.of k03)
    refine ⟨_, .inr ⟨kw, kL2 (s, i), p3, .inl (sm3 _ _ hO), rfl, upd_same, rfl⟩, ?_⟩
    rw [wO (s, i)]
    cases zf : qs.findIdx? (fun p => decide (pb p = (s, i))) with
    | none =>
      have hx : (s, i) ∈ exitsOf ts qs := (out_ok (ps := qs) et io).resolve_right fun ⟨q, hq, e⟩ => by
        rw [sr] at hq
        have := List.findIdx?_eq_none_iff.mp zf q hq
        simp [e] at this
      have hxi : ((exitsOf ts qs).findIdx fun l => decide (l = (s, i))) < (exitsOf ts qs).length := List.findIdx_lt_length_of_exists ⟨_, hx, by simp⟩
      have hxg : (exitsOf ts qs)[(exitsOf ts qs).findIdx fun l => decide (l = (s, i))]? = some (s, i) := by
        rw [List.getElem?_eq_getElem hxi]
        exact congrArg some (of_decide_eq_true (List.findIdx_getElem (p := fun l => decide (l = (s, i))) (xs := exitsOf ts qs) (w := hxi)))
      have hxn : ∀ (k : Nat) (l : Nat × Nat), k < ((exitsOf ts qs).findIdx fun l => decide (l = (s, i))) → (exitsOf ts qs)[k]? = some l → l ≠ (s, i) := fun k l hk hl e => by
        have := List.not_of_lt_findIdx (p := fun l => decide (l = (s, i))) (xs := exitsOf ts qs) (i := k) hk
        obtain ⟨_, e2⟩ := List.getElem?_eq_some_iff.mp hl
        rw [e2, e] at this
        simp at this
      have eP : giv1 qs (exitsOf ts qs) s r Q0 i = (Q0.1, Q0.2.set ((exitsOf ts qs).findIdx fun l => decide (l = (s, i))) ((Q0.2[(exitsOf ts qs).findIdx fun l => decide (l = (s, i))]?).getD [] ++ g)) := by unfold giv1; rw [zf, eg]
      generalize hn : ((exitsOf ts qs).findIdx fun l => decide (l = (s, i))) = n at *
      have lj : n < Q0.2.length := by rw [l2]; show _ < σ.fl.length; rw [so.lf]; exact hxi
      rw [List.getElem?_eq_getElem lj] at eP
      refine ⟨_, rfl, _, rfl, iteTd rfl ?_⟩
      refine ⟨_, rfl, _, rfl, _, _, _, _, rfl, rfl, SqT.of (sm3 _ _ hW), rfl, .inl ⟨rfl, _, SqL.of (sm3 _ _ hE)⟩, _, rfl, _, rfl, sz rfl, fun p4 hp4 => ?_⟩
      have k4 := same_new hp4 (.tup [.int (s : Nat), .int (i : Nat)])
      have k04 := k03.trans' k4
      have sm4 := sm.trans' k04
      have smX : ∀ l ∈ exitsOf ts qs, l.1 ≤ 100 ∧ l.2 ≤ 100 := fun l hl => line_small (fun t ht => (yo.ok t ht).o2) (by have := yo.m2; omega) (List.mem_filter.mp hl).1
      have nX := lns_nice smX (by have := yo.ex; omega)
      refine ⟨E1, .ref p4, lnD (s, i), (exitsOf ts qs).map lnD, n, lnD (s, i), rfl, rfl, .lst (SqL.of (sm4 _ _ hE)) (dpall (fun _ _ r => r.dp) (pr_all (Tups.of sm4) pE)), .tup (SqT.of upd_same) (.cons (.int _) (.cons (.int _) .nil)), nX.shp (by decide), (ln_nice (smX _ hx)).shp (by decide), by rw [List.getElem?_map, hxg]; rfl, (eqv_nn s i s i).trans (decide_eq_true rfl), fun k z' hk hz => ?_, ?_⟩
      · rw [List.getElem?_map] at hz
        cases y : (exitsOf ts qs)[k]? with
        | none => rw [y] at hz; cases hz
        | some l =>
          rw [y] at hz
          obtain rfl : lnD l = z' := Option.some.inj hz
          exact (eqv_nn l.1 l.2 s i).trans (decide_eq_false (hxn k l hk y))
      refine ⟨S3, _, n, _, rfl, rfl, SqL.of (k04 _ _ g3), tV_at lj, _, rfl, _, _, rfl, rfl, by rw [tx_len, tx_len]; exact Nat.le_trans (Nat.add_le_add (s2' _ (List.getElem_mem lj)) gl2) (Nat.le_trans (show 100000 + 2 * i + 2 ≤ 200000 by omega) (by decide)), ?_⟩
      rw [tx_app]
      refine ⟨_, _, _, _, rfl, rfl, k04 _ _ g3, ixN_nat (by rw [tV_len]; exact lj), ?_⟩
      dsimp only
      rw [eF, eP, tV_set]
      exact ⟨⟨_, _, _, rfl⟩, same_at sm4 hn3, (nl.trans (NL.of k04)).trans (NL.at (k04 _ _ g3)), (upd_ne n13).trans (k04 _ _ g1), (upd_ne n23).trans (k04 _ _ g2), upd_same⟩
    | some j =>
      obtain ⟨j9, _, _⟩ := List.findIdx?_eq_some_iff_getElem.mp zf
      have lj : j < Q0.1.length := by rw [l1, plen]; show _ < σ.ct.length; rw [lcq]; exact j9
      have eP : giv1 qs (exitsOf ts qs) s r Q0 i = (Q0.1.set j (Q0.1[j] ++ g), Q0.2) := by unfold giv1; rw [zf, eg]; show (Q0.1.set j ((Q0.1[j]?).getD [] ++ g), Q0.2) = _; rw [List.getElem?_eq_getElem lj]; rfl
      refine ⟨_, rfl, _, rfl, iteFd rfl ?_⟩
      refine ⟨_, rfl, _, rfl, S2, _, j, _, rfl, rfl, SqL.of (k03 _ _ g2), tV_at lj, _, rfl, _, _, rfl, rfl, by rw [tx_len, tx_len]; exact Nat.le_trans (Nat.add_le_add (s1' _ (List.getElem_mem lj)) gl2) (Nat.le_trans (show 100000 + 2 * i + 2 ≤ 200000 by omega) (by decide)), ?_⟩
      rw [tx_app]
      refine ⟨_, _, _, _, rfl, rfl, k03 _ _ g2, ixN_nat (by rw [tV_len]; exact lj), ?_⟩
      dsimp only
      rw [eF, eP, tV_set]
      exact ⟨⟨_, _, _, rfl⟩, same_at sm3 hn2, nl3.trans (NL.at (k03 _ _ g2)), (upd_ne n12).trans (k03 _ _ g1), upd_same, (upd_ne n23.symm).trans (k03 _ _ g3)⟩
  rintro τ H7 ⟨⟨a, b, c, rfl⟩, sm, nl, g1, g2, g3⟩
  have lg7 : (r.gives.map fun b => V.str (tx b)).length = r.gives.length := List.length_map _
  rw [lg7] at g2 g3
  have eA := aft_fold (ts := ts) (σ := σ) (s := s) (r := r) (ex := exitsOf ts qs) (qs := qs) yo.ne yo.nb (fun p hp => (yo.pp p hp).1) (exits_nd ts qs) (by have := exits_dj ts qs; rw [sr] at this; exact this) lcq so.lf (by rw [eS]; exact lq) (fun o ho => by have := out_ok (ps := qs) et (show o < t.outs by rw [← rok.1]; exact List.mem_range.mp ho); unfold OutOk at this; rw [sr] at this; exact this) hPe rfl
  generalize hG : (List.range r.gives.length).foldl (giv1 qs (exitsOf ts qs) s r) (P0.2, σ.fl) = G at *
  refine ⟨_, rfl, _, rfl, _, rfl, _, _, _, _, rfl, rfl, g1, ixN_nat (by rw [nV_len]; exact ls), ?_⟩
  rw [nV_set]
  have u2 := (upd_ne (H := H7) (o := .lst (nV (σ.sd.set s r.goal))) n12.symm).trans g2
  have u3 := (upd_ne (H := H7) (o := .lst (nV (σ.sd.set s r.goal))) n13.symm).trans g3
  refine ⟨_, rfl, _, _, rfl, .inl ⟨SqL.of upd_same, fun t1 ht1 => ?_⟩⟩
  have j1 := same_new ht1 (.tup (nV (σ.sd.set s r.goal)))
  refine ⟨_, rfl, _, _, rfl, .inl ⟨SqL.of (j1 _ _ u2), fun t2 ht2 => ?_⟩⟩
  have j2 := same_new ht2 (.tup (tV G.1))
  have j12 := j1.trans' j2
  refine ⟨_, rfl, _, rfl, _, _, rfl, .inl ⟨SqL.of (j12 _ _ u3), fun t3 ht3 => ⟨sz rfl, fun t4 ht4 => ?_⟩⟩⟩
  have j3 := same_new ht3 (.tup (tV G.2))
  have j4 := same_new ht4 (.tup [.ref t1, .ref t2, .str (tx P0.1), .ref t3])
  have j34 := j3.trans' j4
  refine q _ _ ((same_at sm hS10).trans' (j12.trans' j34)) ?_
  rw [eA]
  exact ⟨t4, t1, t2, t3, rfl, upd_same, (j2.trans' j34) _ _ upd_same, j34 _ _ upd_same, j4 _ _ upd_same⟩
end
end FY


set_option Elab.async false
set_option linter.all false
set_option maxRecDepth 100000
set_option maxHeartbeats 4000000
namespace FY
open PySem L2 FYR
def spRoomL : Sp := fun vs H Q _ => ∃ (A : List Addr) (p : Addr) (ph : V) (ts : List Stn) (qs : List Pipe) (bg : Bg), vs = [.ref p, ph] ∧ Pot p H ∧ p ∈ A ∧ PlanA A H ph ts qs bg ∧ YdOk ts qs ∧ srt qs = qs ∧ ∀ (zv : V) (z : Option (List Nat)) (H' : Hp), SzA H' zv z → SzOk qs z → SzIn z → Kp p H H' → Pot p H' → Q zv H'
def spAnyL : Sp := fun vs H Q _ => ∃ (A : List Addr) (p : Addr) (ph wv : V) (ts : List Stn) (qs : List Pipe) (bg : Bg), vs = [.ref p, ph, wv] ∧ Pot p H ∧ p ∈ A ∧ LK A H ph wv ts qs bg ∧ ∀ (v : V) (σ : Sta) (H' : Hp), StaA H' v σ → StOk ts qs σ → FlOk σ → Kp p H H' → Pot p H' → Q v H'
theorem g5 {x : V} (h : x ∈ [V.str "", V.str "0", V.str "1", V.str "10", V.str "0111"]) : ∃ b : List Bool, x = .str (tx b) ∧ b.length ≤ 4 := by
  simp only [List.mem_cons, List.not_mem_nil, or_false] at h
  rcases h with h | h | h | h | h
  · exact ⟨[], by rw [h]; exact congrArg V.str (by decide +kernel), by decide⟩
  · exact ⟨[false], by rw [h]; exact congrArg V.str (by decide +kernel), by decide⟩
  · exact ⟨[true], by rw [h]; exact congrArg V.str (by decide +kernel), by decide⟩
  · exact ⟨[true, false], by rw [h]; exact congrArg V.str (by decide +kernel), by decide⟩
  · exact ⟨[false, true, true, true], by rw [h]; exact congrArg V.str (by decide +kernel), by decide⟩
theorem g2 {x : V} (h : x ∈ [V.str "", V.str "01"]) : ∃ b : List Bool, x = .str (tx b) ∧ b.length ≤ 4 := by
  simp only [List.mem_cons, List.not_mem_nil, or_false] at h
  rcases h with h | h
  · exact ⟨[], by rw [h]; exact congrArg V.str (by decide +kernel), by decide⟩
  · exact ⟨[false, true], by rw [h]; exact congrArg V.str (by decide +kernel), by decide⟩
theorem g3 {x : V} (h : x ∈ [V.str "", V.str "1", V.str "01"]) : ∃ b : List Bool, x = .str (tx b) ∧ b.length ≤ 4 := by
  simp only [List.mem_cons, List.not_mem_nil, or_false] at h
  rcases h with h | h | h
  · exact ⟨[], by rw [h]; exact congrArg V.str (by decide +kernel), by decide⟩
  · exact ⟨[true], by rw [h]; exact congrArg V.str (by decide +kernel), by decide⟩
  · exact ⟨[false, true], by rw [h]; exact congrArg V.str (by decide +kernel), by decide⟩
section
variable {P : Program} {w : World} {K : PySem.W.Frag} {mg : Str → Option Value} {base : Heap} {aS a1 a2 aL aT : Addr} {f : Addr} {fd : FuncData} {C CD CY : Addr} {mc : Value}
end
end FY


set_option Elab.async false
set_option linter.all false
set_option maxRecDepth 100000
set_option maxHeartbeats 4000000
namespace FY
/-! ### two beats in either sequence -/
section
variable {ts : List Stn} {qs : List Pipe} {ex : List (Nat × Nat)} {σ : Sta} {s s' : Nat} {r r' : Rw}
theorem sg_aft (h : s ≠ s') : sgAt ts (aftS ts qs ex σ s r) s' = sgAt ts σ s' := by
  unfold sgAt aftS
  simp only [List.getElem?_set_ne h]
theorem ct_aft {j : Nat} {p : Pipe} (hj : qs[j]? = some p) : (((aftS ts qs ex σ s r).ct)[j]?).getD [] = (if p.2.2.1 = s ∧ p.2.2.2 ∈ (sgAt ts σ s).reads.lines then ((σ.ct[j]?).getD []).drop 1 else (σ.ct[j]?).getD []) ++ if p.1 = s then gvAt r p.2.1 else [] := by
  unfold aftS
  simp only [List.getElem?_mapIdx, hj, Option.map_some, Option.getD_some]
theorem tx_aft (h : s ≠ s') {l : Nat} (lq : LineQ qs s' l) : ∃ more, txAt qs (aftS ts qs ex σ s r) s' l = txAt qs σ s' l ++ more := by
  by_cases z : (s', l) = (0, 0)
  · refine ⟨[], ?_⟩
    unfold txAt
    rw [if_pos z, if_pos z, List.append_nil]
    have z0 : s' = 0 := (Prod.mk.inj z).1
    unfold aftS
    simp only
    rw [if_neg (fun y => h (y.1.trans z0.symm))]
  · obtain ⟨p, hp, e, _⟩ := ixIn_at (lq.resolve_left z)
    unfold txAt
    rw [if_neg z, if_neg z, ct_aft hp, if_neg (fun y => h (by have := (Prod.mk.inj e).1; rw [← this]; exact y.1.symm))]
    exact ⟨_, rfl⟩
theorem flat_full {g : Nat → List Bool} : ∀ ls : List Nat, ((ls.map fun l => (g l).take 1).flatten).length = ls.length → ∀ l ∈ ls, g l ≠ []
  | [], _, l, hl => by simp at hl
  | a :: r, h, l, hl => by
    have f := flat1 (g := g) r
    simp only [List.map_cons, List.flatten_cons, List.length_append, List.length_take, List.length_cons] at h
    have ha : g a ≠ [] := fun z => by rw [z] at h; simp only [List.length_nil] at h; omega
    rcases List.mem_cons.mp hl with e | e
    · rw [e]; exact ha
    · exact flat_full r (by omega) l e
theorem take1_app {x y : List Bool} (h : x ≠ []) : (x ++ y).take 1 = x.take 1 := by
  cases x with
  | nil => exact absurd rfl h
  | cons a r => simp
theorem sigs_aft (h : s ≠ s') (lq : ∀ l ∈ (sgAt ts σ s').reads.lines, LineQ qs s' l) (full : (sigs ts qs σ s').length = (sgAt ts σ s').reads.lines.length) : sigs ts qs (aftS ts qs ex σ s r) s' = sigs ts qs σ s' := by
  have ne := flat_full _ full
  unfold sigs
  rw [sg_aft h]
  congr 1
  refine List.map_congr_left fun l hl => ?_
  obtain ⟨more, e⟩ := tx_aft (ts := ts) (ex := ex) (σ := σ) (r := r) h (lq l hl)
  rw [e, take1_app (ne l hl)]
theorem row_aft (h : s ≠ s') (lq : ∀ l ∈ (sgAt ts σ s').reads.lines, LineQ qs s' l) (hr : rowS ts qs σ s' = some r') : rowS ts qs (aftS ts qs ex σ s r) s' = some r' := by
  unfold rowS at hr ⊢
  split at hr
  · rename_i z
    rw [sigs_aft h lq z, sg_aft h, if_pos z]
    exact hr
  · cases hr
theorem room_aft (nb : (qs.map pb).Nodup) (h : s ≠ s') {zs : List Nat} (hr : roomS qs σ s' r' zs = true) : roomS qs (aftS ts qs ex σ s r) s' r' zs = true := by
  rw [room_eq, List.all_eq_true] at hr ⊢
  intro o ho
  have := hr o ho
  unfold rmAt at this ⊢
  cases z : qs.findIdx? (fun p => decide (pb p = (s', o))) with
  | none => rfl
  | some j =>
    rw [z] at this
    simp only [decide_eq_true_eq] at this ⊢
    refine this.imp id fun t => Nat.le_trans (Nat.add_le_add_right ?_ _) t
    obtain ⟨hj, hg, _⟩ := List.findIdx?_eq_some_iff_getElem.mp z
    have e1 : pb qs[j] = (s', o) := by simpa using hg
    have n1 : ¬ qs[j].1 = s := fun y => h (y.symm.trans (Prod.mk.inj e1).1)
    rw [ct_aft (List.getElem?_eq_getElem hj), if_neg n1, List.append_nil]
    split
    · rw [List.length_drop]; omega
    · exact Nat.le_refl _
theorem can_aft (nb : (qs.map pb).Nodup) (h : s ≠ s') {z : Option (List Nat)} (lq : ∀ l ∈ (sgAt ts σ s').reads.lines, LineQ qs s' l) (hc : canS ts qs σ s' z = true) : canS ts qs (aftS ts qs ex σ s r) s' z = true := by
  unfold canS at hc ⊢
  cases zr : rowS ts qs σ s' with
  | none => rw [zr] at hc; cases hc
  | some r' =>
    rw [zr] at hc
    rw [row_aft h lq zr]
    cases z with
    | none => rfl
    | some zs => exact room_aft nb h hc
theorem drop1_app {x y : List Bool} (h : x ≠ []) : (x ++ y).drop 1 = x.drop 1 ++ y := by
  cases x with
  | nil => exact absurd rfl h
  | cons a r => rfl
theorem read_ne {j : Nat} {p : Pipe} (nd : (qs.map pe).Nodup) (lt : ∀ p ∈ qs, p.1 < p.2.2.1) (hj : qs[j]? = some p) (hp : p.2.2.1 = s) (hl : p.2.2.2 ∈ (sgAt ts σ s).reads.lines) (full : (sigs ts qs σ s).length = (sgAt ts σ s).reads.lines.length) : (σ.ct[j]?).getD [] ≠ [] := by
  have ft := flat_full _ full _ hl
  unfold txAt at ft
  have hm := List.mem_of_getElem? hj
  have lp := lt p hm
  rw [if_neg (fun y => by have := (Prod.mk.inj y).1; omega)] at ft
  obtain ⟨q, hq, e, _⟩ := ixIn_at (qs := qs) (s := s) (l := p.2.2.2) ⟨p, hm, by rw [← hp]; rfl⟩
  have ej : ixIn qs s p.2.2.2 = j := nd_at nd hq hj (by rw [e, ← hp]; rfl)
  rw [ej] at ft
  exact ft
theorem row_full (hr : rowS ts qs σ s = some r) : (sigs ts qs σ s).length = (sgAt ts σ s).reads.lines.length := by
  unfold rowS at hr
  split at hr
  · assumption
  · cases hr
theorem fl_aft {j : Nat} {l : Nat × Nat} (hj : ex[j]? = some l) : (((aftS ts qs ex σ s r).fl)[j]?).getD [] = (σ.fl[j]?).getD [] ++ if l.1 = s then gvAt r l.2 else [] := by
  unfold aftS
  simp only [List.getElem?_mapIdx, hj, Option.map_some, Option.getD_some]
theorem aft_comm (nd : (qs.map pe).Nodup) (lt : ∀ p ∈ qs, p.1 < p.2.2.1) (h : s ≠ s') (hr : rowS ts qs σ s = some r) (hr' : rowS ts qs σ s' = some r') : aftS ts qs ex (aftS ts qs ex σ s r) s' r' = aftS ts qs ex (aftS ts qs ex σ s' r') s r := by
  have g1 : sgAt ts (aftS ts qs ex σ s r) s' = sgAt ts σ s' := sg_aft h
  have g2 : sgAt ts (aftS ts qs ex σ s' r') s = sgAt ts σ s := sg_aft (Ne.symm h)
  have e1 : (aftS ts qs ex (aftS ts qs ex σ s r) s' r').sd = (aftS ts qs ex (aftS ts qs ex σ s' r') s r).sd := by
    show (σ.sd.set s r.goal).set s' r'.goal = (σ.sd.set s' r'.goal).set s r.goal
    exact List.set_comm _ _ h
  have e2 : (aftS ts qs ex (aftS ts qs ex σ s r) s' r').ct = (aftS ts qs ex (aftS ts qs ex σ s' r') s r).ct := by
    refine List.ext_getElem? fun j => ?_
    show (qs.mapIdx _)[j]? = (qs.mapIdx _)[j]?
    rw [List.getElem?_mapIdx, List.getElem?_mapIdx]
    cases hj : qs[j]? with
    | none => rfl
    | some p =>
      simp only [Option.map_some, g1, g2, ct_aft hj]
      congr 1
      have hm := List.mem_of_getElem? hj
      have lp := lt p hm
      have ne1 := fun a b => read_ne (ts := ts) (σ := σ) (s := s) nd lt hj a b (row_full hr)
      have ne2 := fun a b => read_ne (ts := ts) (σ := σ) (s := s') nd lt hj a b (row_full hr')
      by_cases a : p.2.2.1 = s ∧ p.2.2.2 ∈ (sgAt ts σ s).reads.lines
      · have b : ¬ (p.2.2.1 = s' ∧ p.2.2.2 ∈ (sgAt ts σ s').reads.lines) := fun y => h (a.1.symm.trans y.1)
        have c : ¬ p.1 = s := fun y => by omega
        rw [if_pos a, if_neg b, if_neg c]
        simp only [if_pos a, if_neg b, if_neg c, List.append_nil]
        by_cases d : p.1 = s'
        · simp only [if_pos d, drop1_app (ne1 a.1 a.2)]
        · simp only [if_neg d, List.append_nil]
      · by_cases b : p.2.2.1 = s' ∧ p.2.2.2 ∈ (sgAt ts σ s').reads.lines
        · have c : ¬ p.1 = s' := fun y => by omega
          simp only [if_neg a, if_pos b, if_neg c, List.append_nil]
          by_cases d : p.1 = s
          · simp only [if_pos d, drop1_app (ne2 b.1 b.2)]
          · simp only [if_neg d, List.append_nil]
        · simp only [if_neg a, if_neg b]
          by_cases d : p.1 = s
          · have c : ¬ p.1 = s' := fun y => h (d.symm.trans y)
            simp only [if_pos d, if_neg c, List.append_nil]
          · simp only [if_neg d, List.append_nil]
  have e3 : (aftS ts qs ex (aftS ts qs ex σ s r) s' r').rs = (aftS ts qs ex (aftS ts qs ex σ s' r') s r).rs := by
    show (if s' = 0 ∧ 0 ∈ (sgAt ts (aftS ts qs ex σ s r) s').reads.lines then (if s = 0 ∧ 0 ∈ (sgAt ts σ s).reads.lines then σ.rs.drop 1 else σ.rs).drop 1 else (if s = 0 ∧ 0 ∈ (sgAt ts σ s).reads.lines then σ.rs.drop 1 else σ.rs)) = (if s = 0 ∧ 0 ∈ (sgAt ts (aftS ts qs ex σ s' r') s).reads.lines then (if s' = 0 ∧ 0 ∈ (sgAt ts σ s').reads.lines then σ.rs.drop 1 else σ.rs).drop 1 else (if s' = 0 ∧ 0 ∈ (sgAt ts σ s').reads.lines then σ.rs.drop 1 else σ.rs))
    rw [g1, g2]
    by_cases a : s = 0 ∧ 0 ∈ (sgAt ts σ s).reads.lines
    · have b : ¬ (s' = 0 ∧ 0 ∈ (sgAt ts σ s').reads.lines) := fun y => h (a.1.trans y.1.symm)
      simp only [if_pos a, if_neg b]
    · simp only [if_neg a]
  have e4 : (aftS ts qs ex (aftS ts qs ex σ s r) s' r').fl = (aftS ts qs ex (aftS ts qs ex σ s' r') s r).fl := by
    refine List.ext_getElem? fun j => ?_
    show (ex.mapIdx _)[j]? = (ex.mapIdx _)[j]?
    rw [List.getElem?_mapIdx, List.getElem?_mapIdx]
    cases hj : ex[j]? with
    | none => rfl
    | some l =>
      simp only [Option.map_some, fl_aft hj]
      congr 1
      by_cases d : l.1 = s
      · have c : ¬ l.1 = s' := fun y => h (d.symm.trans y)
        simp only [if_pos d, if_neg c, List.append_nil]
      · simp only [if_neg d, List.append_nil]
  generalize aftS ts qs ex (aftS ts qs ex σ s r) s' r' = X at *
  generalize aftS ts qs ex (aftS ts qs ex σ s' r') s r = Y at *
  cases X
  cases Y
  simp only at e1 e2 e3 e4
  rw [e1, e2, e3, e4]
/-- every text of a state is short -/
structure BdS (n : Nat) (σ : Sta) : Prop where
  r : σ.rs.length ≤ n
  c : ∀ b ∈ σ.ct, b.length ≤ n
  f : ∀ b ∈ σ.fl, b.length ≤ n
theorem bd_at {n : Nat} {l : List (List Bool)} (h : ∀ b ∈ l, b.length ≤ n) (j : Nat) : ((l[j]?).getD []).length ≤ n := by
  cases z : l[j]? with
  | none => exact Nat.zero_le _
  | some b => exact h b (List.mem_of_getElem? z)
theorem aft_bd {n a b : Nat} (h : BdS n σ) (rok : r.ok a b) : BdS (n + 2) (aftS ts qs ex σ s r) := by
  have g2 : ∀ o, (gvAt r o).length ≤ 2 := gv_short rok
  refine ⟨?_, fun x hx => ?_, fun x hx => ?_⟩
  · have := h.r
    unfold aftS
    simp only
    split
    · rw [List.length_drop]; omega
    · omega
  · obtain ⟨j, hj⟩ := List.mem_iff_getElem?.mp hx
    have hj : (qs.mapIdx _)[j]? = some x := hj
    rw [List.getElem?_mapIdx] at hj
    cases hq : qs[j]? with
    | none => rw [hq] at hj; cases hj
    | some p =>
      rw [hq] at hj
      have e := Option.some.inj hj
      rw [← e, List.length_append]
      have c := bd_at h.c j
      have := g2 p.2.1
      have t1 : (if p.2.2.1 = s ∧ p.2.2.2 ∈ (sgAt ts σ s).reads.lines then ((σ.ct[j]?).getD []).drop 1 else (σ.ct[j]?).getD []).length ≤ n := by
        split
        · rw [List.length_drop]; omega
        · exact c
      have t2 : (if p.1 = s then gvAt r p.2.1 else []).length ≤ 2 := by
        split
        · exact this
        · exact Nat.zero_le _
      exact Nat.add_le_add t1 t2
  · obtain ⟨j, hj⟩ := List.mem_iff_getElem?.mp hx
    have hj : (ex.mapIdx _)[j]? = some x := hj
    rw [List.getElem?_mapIdx] at hj
    cases hq : ex[j]? with
    | none => rw [hq] at hj; cases hj
    | some l =>
      rw [hq] at hj
      have e := Option.some.inj hj
      rw [← e, List.length_append]
      have c := bd_at h.f j
      have := g2 l.2
      have t2 : (if l.1 = s then gvAt r l.2 else []).length ≤ 2 := by
        split
        · exact this
        · exact Nat.zero_le _
      exact Nat.add_le_add c t2
theorem bd_ok {n : Nat} (h : BdS n σ) (hn : n ≤ 100000) (ls : σ.sd.length = ts.length) (lc : σ.ct.length = (srt qs).length) (lf : σ.fl.length = (exitsOf ts qs).length) (st : ∀ (s : Nat) (t : Stn) (g : Nat), ts[s]? = some t → σ.sd[s]? = some g → g < t.stgs.length) : StOk ts qs σ ∧ FlOk σ :=
  ⟨⟨ls, lc, lf, st, Nat.le_trans h.r hn, fun b hb => Nat.le_trans (h.c b hb) hn⟩, fun b hb => Nat.le_trans (h.f b hb) hn⟩
theorem aft_ok {n : Nat} {t : Stn} (so : StOk ts qs σ) (sr : srt qs = qs) (et : ts[s]? = some t) (tok : t.ok) (hr : rowS ts qs σ s = some r) (h : BdS n σ) (hn : n + 2 ≤ 100000) : StOk ts qs (aftS ts qs (exitsOf ts qs) σ s r) ∧ FlOk (aftS ts qs (exitsOf ts qs) σ s r) ∧ BdS (n + 2) (aftS ts qs (exitsOf ts qs) σ s r) := by
  have rok := row_in so et tok (by rw [sr]; exact hr)
  have b := aft_bd (ts := ts) (qs := qs) (ex := exitsOf ts qs) (s := s) h rok
  obtain ⟨x, y⟩ := bd_ok (ts := ts) (qs := qs) b hn (by show (σ.sd.set s r.goal).length = _; rw [List.length_set]; exact so.ls) (by show (qs.mapIdx _).length = _; rw [List.length_mapIdx, sr]) (by show ((exitsOf ts qs).mapIdx _).length = _; rw [List.length_mapIdx]) (fun s1 t1 g e1 e2 => by
    have e2 : (σ.sd.set s r.goal)[s1]? = some g := e2
    by_cases z : s = s1
    · subst z
      rw [List.getElem?_set_self (by rw [so.ls]; exact (List.getElem?_eq_some_iff.mp et).1)] at e2
      rw [et] at e1
      cases Option.some.inj e1
      cases Option.some.inj e2
      exact rok.2.2.1
    · rw [List.getElem?_set_ne z] at e2
      exact so.st s1 t1 g e1 e2)
  exact ⟨x, y, b⟩
end
end FY


set_option Elab.async false
set_option linter.all false
set_option maxRecDepth 100000
set_option maxHeartbeats 4000000
namespace FY
open PySem L2 FYR
/-! ### states, and lists of stations, as data -/
def iDs (ns : List Nat) : List PyData := ns.map fun (n : Nat) => PyData.int (n : Nat)
def tDs (bs : List (List Bool)) : List PyData := bs.map fun b => PyData.str (tx b)
def staD (σ : Sta) : PyData := .tuple [.tuple (iDs σ.sd), .tuple (tDs σ.ct), .str (tx σ.rs), .tuple (tDs σ.fl)]
theorem dpnums {K : PySem.W.Frag} {H : Hp} : ∀ ns : List Nat, DpAll K H (nV ns) (iDs ns)
  | [] => .nil
  | n :: r => .cons (.int _) (dpnums r)
theorem StaA.dp {K : PySem.W.Frag} {H : Hp} {v : V} {σ : Sta} (h : StaA H v σ) : Dp K H v (staD σ) := by
  obtain ⟨a, p, q, r, rfl, h1, h2, h3, h4⟩ := h
  exact .tup (SqT.of h1) (.cons (.tup (SqT.of h2) (dpnums _)) (.cons (.tup (SqT.of h3) (dpstr _)) (.cons (.str _) (.cons (.tup (SqT.of h4) (dpstr _)) .nil))))
theorem nums_dp {K : PySem.W.Frag} {H : Hp} {p : Addr} {ns : List Nat} (h : H p = some (.lst (nV ns))) : Dp K H (.ref p) (.list (iDs ns)) := .lst (SqL.of h) (dpnums _)
theorem lay_ints : ∀ ns : List Nat, PyData.canLayAll0 (iDs ns) = true ∧ PyData.depthAll (iDs ns) = 0
  | [] => ⟨rfl, rfl⟩
  | n :: r => by
    obtain ⟨a, b⟩ := lay_ints r
    exact ⟨by show (PyData.canLay0 (.int (n : Nat)) && PyData.canLayAll0 (iDs r)) = true; rw [a]; rfl, by show max (PyData.depth (.int (n : Nat))) (PyData.depthAll (iDs r)) = 0; rw [b]; rfl⟩
theorem lay_txts : ∀ bs : List (List Bool), PyData.canLayAll0 (tDs bs) = true ∧ PyData.depthAll (tDs bs) = 0
  | [] => ⟨rfl, rfl⟩
  | n :: r => by
    obtain ⟨a, b⟩ := lay_txts r
    exact ⟨by show (PyData.strOk (tx n) && PyData.canLayAll0 (tDs r)) = true; rw [a, tx_ok]; rfl, by show max (PyData.depth (.str (tx n))) (PyData.depthAll (tDs r)) = 0; rw [b]; rfl⟩
theorem sta_lay (σ : Sta) : (staD σ).canLay0 = true := by
  unfold staD
  simp [PyData.canLay0, PyData.canLayAll0, (lay_ints _).1, (lay_txts _).1, tx_ok]
theorem sta_dep (σ : Sta) : (staD σ).depth ≤ 2 := by
  unfold staD
  simp [PyData.depth, PyData.depthAll, (lay_ints _).2, (lay_txts _).2]
theorem sta_shp (σ : Sta) : SeqAt.shaped (staD σ) = true := by
  have := sta_dep σ
  unfold SeqAt.shaped
  simp [sta_lay σ]
  omega
theorem sta_eqv (σ : Sta) : PyData.eqv (staD σ) (staD σ) = true := eqv_dec (sta_lay σ)
theorem nums_lay (ns : List Nat) : (PyData.list (iDs ns)).canLay0 = true := by
  simp [PyData.canLay0, (lay_ints _).1]
theorem nums_shp (ns : List Nat) : SeqAt.shaped (.list (iDs ns)) = true := by
  unfold SeqAt.shaped
  simp [nums_lay ns, PyData.depth, (lay_ints _).2]
theorem nums_eqv (ns : List Nat) : PyData.eqv (.list (iDs ns)) (.list (iDs ns)) = true := eqv_dec (nums_lay ns)
end FY


set_option Elab.async false
set_option linter.all false
set_option maxRecDepth 100000
set_option maxHeartbeats 4000000
namespace FY
open PySem L2 FYR
/-- what the law holds at a state -/
structure WK (A : List Addr) (CY C : Addr) (H : Hp) (p y : Addr) (ph wv zv : V) (ts : List Stn) (qs : List Pipe) (bg : Bg) (z : Option (List Nat)) : Prop where
  po : Pot p H
  pA : p ∈ A
  lk : LK A H ph wv ts qs bg
  yk : YK CY C H y ts qs
  yb : YdBg CY H y bg
  sk : SK H zv qs z
theorem WK.kp {A : List Addr} {CY C : Addr} {H H' : Hp} {p y : Addr} {ph wv zv : V} {ts : List Stn} {qs : List Pipe} {bg : Bg} {z : Option (List Nat)} (h : WK A CY C H p y ph wv zv ts qs bg z) (k : Kp p H H') (po : Pot p H') : WK A CY C H' p y ph wv zv ts qs bg z := by
  have kl := kl_kp h.po k h.pA
  exact ⟨po, h.pA, h.lk.kl kl, h.yk.keep kl.nl, h.yb.nl kl.nl, h.sk.keep kl.tups⟩
theorem WK.same {A : List Addr} {CY C : Addr} {H H' : Hp} {p y : Addr} {ph wv zv : V} {ts : List Stn} {qs : List Pipe} {bg : Bg} {z : Option (List Nat)} (h : WK A CY C H p y ph wv zv ts qs bg z) (k : Same H H') : WK A CY C H' p y ph wv zv ts qs bg z := h.kp (Kp.of k) (h.po.same k)
def spEitherL (CY C : Addr) : Sp := fun vs H Q _ => ∃ (A : List Addr) (p y : Addr) (ph wv v zv : V) (σ : Sta) (n : Nat) (ts : List Stn) (qs : List Pipe) (bg : Bg) (z : Option (List Nat)), vs = [.ref p, .ref y, ph, wv, v, zv] ∧ WK A CY C H p y ph wv zv ts qs bg z ∧ StaA H v σ ∧ StOk ts qs σ ∧ FlOk σ ∧ BdS n σ ∧ n ≤ 1000 ∧ ∀ H', Kp p H H' → Pot p H' → Q (.bl true) H'
theorem aftR_eq {ts : List Stn} {qs : List Pipe} {σ : Sta} {s : Nat} {r : Rw} (sr : srt qs = qs) (h : rowS ts qs σ s = some r) : aftR ts qs σ s = aftS ts qs (exitsOf ts qs) σ s r := by
  unfold aftR
  rw [sr, h]
theorem able_mem {ts : List Stn} {qs : List Pipe} {σ : Sta} {z : Option (List Nat)} {s : Nat} : s ∈ ableS ts qs σ z ↔ s < ts.length ∧ canS ts qs σ s z = true := by
  unfold ableS
  rw [List.mem_filter, List.mem_range]
theorem able_nd {ts : List Stn} {qs : List Pipe} {σ : Sta} {z : Option (List Nat)} : (ableS ts qs σ z).Nodup := List.Pairwise.filter _ List.nodup_range
theorem er_map {α β : Type} (f : α → β) : ∀ (l : List α) (k : Nat), (l.map f).eraseIdx k = (l.eraseIdx k).map f
  | [], k => rfl
  | a :: r, 0 => rfl
  | a :: r, k + 1 => congrArg (f a :: ·) (er_map f r k)
theorem in_nV (s : Nat) : ∀ ns : List Nat, inV (.int (s : Nat)) (nV ns) = decide (s ∈ ns)
  | [] => rfl
  | n :: r => by
    have ih := in_nV s r
    show (eqV (.int (n : Nat)) (.int (s : Nat)) || inV (.int (s : Nat)) (nV r)) = _
    rw [ih]
    have : eqV (.int (n : Nat)) (.int (s : Nat)) = decide (s = n) := by
      by_cases z : s = n
      · subst z; simp [eqV]
      · simp [eqV, z]; omega
    rw [this]
    simp [List.mem_cons]
theorem flat_nV : ∀ ns : List Nat, (nV ns).all flatV = true
  | [] => rfl
  | n :: r => by
    show (flatV (.int (n : Nat)) && (nV r).all flatV) = true
    rw [flat_nV r]
    rfl
theorem lines_q {A : List Addr} {H : Hp} {ph wv : V} {ts : List Stn} {qs : List Pipe} {bg : Bg} (lk : LK A H ph wv ts qs bg) {σ : Sta} (so : StOk ts qs σ) {s : Nat} (hs : s < ts.length) : ∀ l ∈ (sgAt ts σ s).reads.lines, LineQ qs s l := fun l hl => by
  have et : ts[s]? = some ts[s] := List.getElem?_eq_getElem hs
  have tok := lk.yo.ok _ (List.getElem_mem hs)
  have ls : s < σ.sd.length := by rw [so.ls]; exact hs
  have eg : σ.sd[s]? = some σ.sd[s] := List.getElem?_eq_getElem ls
  have lg := so.st s _ _ et eg
  have eS : sgAt ts σ s = ts[s].stgs[σ.sd[s]] := by unfold sgAt; rw [et, eg]; show (ts[s].stgs[σ.sd[s]]?).getD _ = _; rw [List.getElem?_eq_getElem lg]; rfl
  rw [eS] at hl
  exact all_line lk.al et (sg_lines (tok.sg _ (List.getElem_mem lg)) tok.i1 hl)
section
variable {P : Program} {w : World} {K : PySem.W.Frag} {mg : Str → Option Value} {base : Heap} {aS a1 a2 aL aT : Addr} {f : Addr} {fd : FuncData} {C CD CY : Addr} {mc : Value}
end
end FY


set_option Elab.async false
set_option linter.all false
set_option maxRecDepth 100000
set_option maxHeartbeats 4000000
namespace FY
open PySem L2 FYR
/-! ## CannotBeDone -/
structure CanBD (K : PySem.W.Frag) (mg : Str → Option Value) (CL CT fI : Addr) (mc : Value) : Prop where
  gL : mg "StateError" = some (.ref CL)
  gC : mg "CannotBeDone" = some (.ref CT)
  rd : ClX.CRead K CL mc
  vV : PySem.W.findCls K (.ref CL) mc "__init__" = some (.val (.builtin "RuntimeError.__init__"))
  ox : OexA K CT
  iC : PySem.W.findIn K (.ref CT) "__init__" = some (some (.ref fI))
  tI : PySem.W.typeIn K (.ref fI) = some (.type "function")
  noV : PySem.W.findIn K (.ref CT) "value" = some none
  xf : XfC K CT
  te : PySem.W.exmOne K (.ref CT) (.ref CT) = some true
def spCBI (K : PySem.W.Frag) (CT : Addr) : Sp := fun vs H Q _ => ∃ a x, vs = [.ref a, x] ∧ OexA K CT ∧ H a = some (exo a CT none) ∧ ∀ dx, H dx = none → dx ≠ a → Q .non (upd (upd H dx (exd dx [("value", x)])) a (exo a CT (some dx)))
def spDoneX (CY C CT : Addr) : Sp := fun vs H Q E => ∃ (y : Addr) (v zv : V) (σ : Sta) (s : Nat) (z : Option (List Nat)) (ts : List Stn) (ps : List Pipe), vs = [.ref y, v, .int (s : Nat), zv] ∧ YK CY C H y ts ps ∧ StaA H v σ ∧ StOk ts ps σ ∧ FlOk σ ∧ SK H zv ps z ∧ s < ts.length ∧ canS ts (srt ps) σ s z = false ∧ ∀ H' d, Same H H' → H' d = some (.xd [("value", .int (s : Nat))]) → E (.ref CT) (some d) H'
section
variable {P : Program} {w : World} {K : PySem.W.Frag} {mg : Str → Option Value} {base : Heap} {aS a1 a2 aL aT : Addr} {f : Addr} {fd : FuncData} {C CD CY : Addr} {mc : Value} {CL CT fI : Addr}
end
end FY


set_option Elab.async false
set_option linter.all false
set_option maxRecDepth 100000
set_option maxHeartbeats 4000000
namespace FY
open PySem L2 FYR
/-! ## calls of defs by name: with keywords, with no repr under way -/
def pick {α : Type} (is : List Nat) (l : List α) : List α := is.filterMap fun i => l[i]?
theorem pick_rel {α β : Type} {R : α → β → Prop} {a : List α} {b : List β} (h : Paired R a b) : ∀ is : List Nat, Paired R (pick is a) (pick is b)
  | [] => .nil
  | i :: r => by
    have ih := pick_rel h r
    unfold pick at ih ⊢
    rw [List.filterMap_cons, List.filterMap_cons]
    cases e : a[i]? with
    | none =>
      have l1 := List.getElem?_eq_none_iff.mp e
      rw [List.getElem?_eq_none_iff.mpr (show b.length ≤ i by rw [← paired_len2 h]; exact l1)]
      exact ih
    | some x =>
      obtain ⟨y, e2, r2⟩ := paired_get h e
      rw [e2]
      exact .cons r2 ih
structure CalN (P : Program) (w : World) (K : PySem.W.Frag) (mg : Str → Option Value) (base : Heap) (CX : CXT) (k : Nat) (x : Str) (sp : Sp) (n : Nat) (ks : List Str) (is : List Nat) (dvs : List V) : Prop where
  ex : ∃ (f : Addr) (fd : FuncData) (ps : List Str) (g : List Value → List Value → List Value), FnOk P w K mg base CX k f fd ps sp ∧ mg x = some (.ref f) ∧ PySem.W.keepIn K (.ref f) = true ∧ KBn K fd ps n ks g (fun vs zs => pick is (vs ++ (zs ++ dvs)))
structure CalG (P : Program) (w : World) (K : PySem.W.Frag) (mg : Str → Option Value) (base : Heap) (k : Nat) (x : Str) (sp : Sp) : Prop where
  ex : ∃ (f : Addr) (fd : FuncData) (ps : List Str), FnG P w K mg base k f fd ps sp ∧ mg x = some (.ref f) ∧ PySem.W.keepIn K (.ref f) = true ∧ Binds K fd ps []
theorem kbn_D {K : PySem.W.Frag} {x qual : Str} {params : Arguments} {body : List Stmt} {scope : Scope} {dvs : List V} {kws : List (Str × V)} {f : Addr} {fd : FuncData} (F : FunD K x qual params body scope dvs kws f fd) (ps : List Str) (n : Nat) (ks : List Str) (is : List Nat) (hd : dvs ≠ [])
    (h : ∀ (T : Addr) (kV doc pm : Value) (an : Option Addr) (cdv ct : Value) (us its ws : List Value), us.length = n → its.length = dvs.length → ws.length = ks.length →
      ∃ k, bindArgs (PySem.W.fnOf x qual params body scope (.ref T) kV doc pm an cdv ct) ⟨us, ks.zip ws⟩ = seqItems? (.ref T) >>= k ∧ k (some its.toArray) = pure (ps.zip (pick is (us ++ (ws ++ its))))) :
    ∃ g, KBn K fd ps n ks g (fun vs zs => pick is (vs ++ (zs ++ dvs))) := by
  obtain ⟨its, b⟩ := F.kbindsD n ks (fun vs ds zs => pick is (vs ++ (zs ++ ds))) hd (fun r1 r2 r3 => pick_rel (paired_app r1 (paired_app r3 r2)) is) h
  exact ⟨_, b⟩
theorem kbn_F {K : PySem.W.Frag} {x qual : Str} {st : Stmt} {f : Addr} {fd : FuncData} (F : Fun K x qual st f fd) (ps : List Str) (n : Nat) (ks : List Str) (is : List Nat)
    (h : ∀ (kV doc pm : Value) (an : Option Addr) (cdv ct : Value) (us ws : List Value), us.length = n → ws.length = ks.length → bindArgs (PySem.W.fnOf x qual (defArgs st) (defBody st) (defScope st) .none kV doc pm an cdv ct) ⟨us, ks.zip ws⟩ = pure (ps.zip (pick is (us ++ (ws ++ []))))) :
    ∃ g, KBn K fd ps n ks g (fun vs zs => pick is (vs ++ (zs ++ []))) := by
  obtain ⟨oc, od, kV, doc, pm, an, cdv, ct, osl, rfl, lk, hcd⟩ := F.ex
  refine ⟨fun us ws => pick is (us ++ (ws ++ [])), ⟨fun s us ws _ hu hw => .of_eq (h kV doc pm an cdv ct us ws hu hw), fun r1 r2 => pick_rel (paired_app r1 (paired_app r2 .nil)) is⟩⟩
section
variable {X : Cx} {CX : CXT} {k j n : Nat} {x : Str} {sp : Sp} {ks : List Str} {is : List Nat} {dvs : List V} {p pos : Pos} {kws : List Keyword} {tk t : L2.TA} {e : Expr} {es : List Expr} {E : XK}
theorem pe_cN (c : CalN X.prog X.w X.K X.mg X.base CX k x sp n ks is dvs) (hr : Room j X.A) (hk : k ≤ j) (hg : Gl X x) (hx : Passes CX X E) (ha : PA X (e :: es) t) (hkw : PK X kws tk) (hall : (backToKw pos (keywordEach kws X.env)).all (·.1.isSome) = true := by rfl) (hks : (backToKw pos (keywordEach kws X.env)).filterMap (·.1) = ks := by rfl)
    (hdb : (x == ("__debug__" : Str)) = false := by decide) (he : starEach (e :: es) X.env = (false, eval e X.env) :: starEach es X.env := by rfl)
    (hpl : ((backTo pos (starEach (e :: es) X.env)).any (·.1) || (backToKw pos (keywordEach kws X.env)).any (·.1.isNone)) = false := by rfl) :
    PE X (.Call (.Name x p) (e :: es) kws pos) (tCallN n ks.length sp (fun vs zs => pick is (vs ++ (zs ++ dvs))) E t tk) := by
  obtain ⟨f, fd, ps, g, F, hm, kp, b⟩ := c.ex
  exact pe_callN F (hr.mono hk) hg hm kp b hx ha hkw hall hks hdb he hpl
theorem pe_cN0 (c : CalN X.prog X.w X.K X.mg X.base CX k x sp 0 ks is dvs) (hr : Room j X.A) (hk : k ≤ j) (hg : Gl X x) (hx : Passes CX X E) (hkw : PK X kws tk) (hall : (backToKw pos (keywordEach kws X.env)).all (·.1.isSome) = true := by rfl) (hks : (backToKw pos (keywordEach kws X.env)).filterMap (·.1) = ks := by rfl)
    (hdb : (x == ("__debug__" : Str)) = false := by decide)
    (hpl : ((backTo pos (starEach [] X.env)).any (·.1) || (backToKw pos (keywordEach kws X.env)).any (·.1.isNone)) = false := by rfl) : PE X (.Call (.Name x p) [] kws pos) (tCallN0 ks.length sp (fun vs zs => pick is (vs ++ (zs ++ dvs))) E tk) := by
  obtain ⟨f, fd, ps, g, F, hm, kp, b⟩ := c.ex
  exact pe_callN0 F (hr.mono hk) hg hm kp b hx hkw hall hks hdb hpl
theorem pe_cG (c : CalG X.prog X.w X.K X.mg X.base k x sp) (hgd : X.A.guards = some []) (hr : Room j X.A) (hk : k ≤ j) (hg : Gl X x) (ha : PA X (e :: es) t)
    (hdb : (x == ("__debug__" : Str)) = false := by decide) (he : starEach (e :: es) X.env = (false, eval e X.env) :: starEach es X.env := by rfl) (hpl : (backTo pos (starEach es X.env)).any (·.1) = false := by rfl) :
    PE X (.Call (.Name x p) (e :: es) [] pos) (tCall sp [] C8.E0 t) := by
  obtain ⟨f, fd, ps, F, hm, kp, b⟩ := c.ex
  exact pe_callG F hgd (hr.mono hk) hg hm kp b ha hdb he hpl
end
/-! ## tables -/
theorem fnC_of {P : Program} {w : World} {K : PySem.W.Frag} {mg : Str → Option Value} {base : Heap} {x qual : Str} {st : Stmt} {f : Addr} {fd : FuncData} {N ps : List Str} {k : Nat} {sp : Sp} {cv : Value} (F : Fun K x qual st f fd) (hcv : fd.code = cv) (S : FnScope N ps (defScope st)) (len : ∀ vs H Q E, sp vs H Q E → vs.length = ps.length)
    (hbody : ∀ (A : Around) (outer : List Env) (s : Shared) (H : Hp) (vs : List V) (Q : VK) (E : XK), Room k (A.deeper (PyProof.Rows.envOfC qual (defScope st) s.heap.objs.size f cv)) → sp vs H Q E →
      ∃ t, PSs (cxOf CX0 P w K mg base N qual (defScope st) f cv A outer s H E).nox (defBody st) t ∧ t { nx := fun _ H' => Q .non H', rt := Q } (L2.start N vs) H) : FnOk P w K mg base CX0 (k + 1) f fd ps sp := by
  obtain ⟨oc, od, kV, doc, pm, an, cdv, ct, osl, rfl, lk, hcd⟩ := F.ex
  obtain rfl : cdv = cv := hcv
  exact fn_of lk hcd S len fun A outer s H vs Q E hr hsp => by
    obtain ⟨t, ht, hq⟩ := hbody A outer s H vs Q E hr hsp
    exact ⟨t, ht.nox, hq⟩
/-! heaps but for the tables -/
theorem ExtN_tups {H H' : Hp} (e : LamX.ExtN H H') : Tups H H' := fun a xs h => e a _ h (fun ps z => nomatch z)
theorem ExtN_lst {H H' : Hp} (e : LamX.ExtN H H') {a : Addr} {xs : List V} (h : H a = some (.lst xs)) : H' a = some (.lst xs) := e a _ h (fun ps z => nomatch z)
theorem ExtN_pot {p : Addr} {H H' : Hp} (e : LamX.ExtN H H') (h : Pot p H) : Pot p H' := by
  obtain ⟨x, y, h, r⟩ := h
  exact ⟨x, y, ExtN_lst e h, r⟩
theorem ext_of {H H' : Hp} (s : Same H H') : LamX.ExtN H H' := .of s
def KpN (p : Addr) (H H' : Hp) : Prop := ∀ b o, b ≠ p → (∀ ps, o ≠ .tbl ps) → H b = some o → H' b = some o
theorem KpN.of {p : Addr} {H H1 H2 : Hp} (a : Kp p H H1) (b : LamX.ExtN H1 H2) : KpN p H H2 := fun x o n t e => b x o (a x o n e) t
theorem tabs_kp {p : Addr} {T : List (Addr × Str)} {H H' : Hp} (pt : Pot p H) (k : Kp p H H') (t : LamX.Tabs T H) : LamX.Tabs T H' := fun q hq => by
  obtain ⟨ps, h1, h2, h3⟩ := t q hq
  obtain ⟨x, y, hp, _⟩ := pt
  refine ⟨ps, k _ _ (fun z => ?_) h1, h2, fun pos cv hc => ?_⟩
  · rw [z, hp] at h1
    cases h1
  · obtain ⟨c, rfl, hcc⟩ := h3 pos cv hc
    refine ⟨c, rfl, k _ _ (fun z => ?_) hcc⟩
    rw [z, hp] at hcc
    exact nomatch (Option.some.inj hcc)
theorem ext_kl {A : List Addr} {H H' : Hp} (e : LamX.ExtN H H') : KL A H H' := fun b o t _ h => e b o h t
theorem KpN.kp {p : Addr} {H H' : Hp} (k : Kp p H H') : KpN p H H' := fun b o n _ e => k b o n e
theorem KpN.ext {p : Addr} {H H' : Hp} (k : LamX.ExtN H H') : KpN p H H' := fun b o _ t e => k b o e t
theorem KpN.trans {p : Addr} {H H1 H2 : Hp} (a : KpN p H H1) (b : KpN p H1 H2) : KpN p H H2 := fun x o n t e => b x o n t (a x o n t e)
theorem KpN.tups {p : Addr} {H H' : Hp} (po : Pot p H) (k : KpN p H H') : Tups H H' := fun b xs e => k b _ (fun z => by obtain ⟨c, d, h, _⟩ := po; rw [z, h] at e; cases e) (fun _ z => nomatch z) e
theorem KpN.lst {p L : Addr} {H H' : Hp} (k : KpN p H H') (n : L ≠ p) {xs : List V} (h : H L = some (.lst xs)) : H' L = some (.lst xs) := k L _ n (fun _ z => nomatch z) h
theorem KpN.at {p L : Addr} {H H' : Hp} {o : HO} (k : KpN p H H') (h : H L = none) : KpN p H (upd H' L o) := fun b u n t e => by
  rw [upd_ne (ne_of_none e h)]
  exact k b u n t e
theorem kl_kpN {A : List Addr} {p : Addr} {H H' : Hp} (po : Pot p H) (k : KpN p H H') (hp : p ∈ A) : KL A H H' := fun b o t n e => by
  by_cases z : b = p
  · subst z
    obtain ⟨c, d, h, _⟩ := po
    rw [h] at e
    exact absurd (Option.some.inj e).symm (n hp _)
  · exact k b o z t e
theorem WK.kpN {A : List Addr} {CY C : Addr} {H H' : Hp} {p y : Addr} {ph wv zv : V} {ts : List Stn} {qs : List Pipe} {bg : Bg} {z : Option (List Nat)} (h : WK A CY C H p y ph wv zv ts qs bg z) (k : KpN p H H') (po : Pot p H') : WK A CY C H' p y ph wv zv ts qs bg z := by
  have kl := kl_kpN h.po k h.pA
  exact ⟨po, h.pA, h.lk.kl kl, h.yk.keep kl.nl, h.yb.nl kl.nl, h.sk.keep kl.tups⟩
theorem tabs_at {T : List (Addr × Str)} {H : Hp} {L : Addr} {o : HO} (t : LamX.Tabs T H) (n : ∀ xs, H L = some (.lst xs) → True) (h : ∃ xs, H L = some (.lst xs)) : LamX.Tabs T (upd H L o) := fun q hq => by
  obtain ⟨xs, hL⟩ := h
  obtain ⟨ps, h1, h2, h3⟩ := t q hq
  refine ⟨ps, ?_, h2, fun pos cv hc => ?_⟩
  · rw [upd_ne (fun z => by rw [z, hL] at h1; cases h1)]
    exact h1
  · obtain ⟨c, rfl, hcc⟩ := h3 pos cv hc
    refine ⟨c, rfl, ?_⟩
    rw [upd_ne (fun z => by rw [z, hL] at hcc; exact nomatch (Option.some.inj hcc))]
    exact hcc
theorem neD {d : PyData} (h : PyData.eqv d d = true) : (!PyData.eqv d d) = false := by rw [h]; rfl
end FY

set_option Elab.async false
set_option linter.all false
set_option maxRecDepth 100000
set_option maxHeartbeats 4000000
namespace FY
/-! ### runs come to an end, all to the same one -/
structure NK (ts : List Stn) (qs : List Pipe) : Prop where
  yo : YdOk ts qs
  sr : srt qs = qs
  al : AllIn ts qs
theorem lines_k {ts : List Stn} {qs : List Pipe} {σ : Sta} (k : NK ts qs) (so : StOk ts qs σ) {s : Nat} (hs : s < ts.length) : ∀ l ∈ (sgAt ts σ s).reads.lines, LineQ qs s l := fun l hl => by
  have et : ts[s]? = some ts[s] := List.getElem?_eq_getElem hs
  have tok := k.yo.ok _ (List.getElem_mem hs)
  have ls : s < σ.sd.length := by rw [so.ls]; exact hs
  have eg : σ.sd[s]? = some σ.sd[s] := List.getElem?_eq_getElem ls
  have lg := so.st s _ _ et eg
  have eS : sgAt ts σ s = ts[s].stgs[σ.sd[s]] := by unfold sgAt; rw [et, eg]; show (ts[s].stgs[σ.sd[s]]?).getD _ = _; rw [List.getElem?_eq_getElem lg]; rfl
  rw [eS] at hl
  exact all_line k.al et (sg_lines (tok.sg _ (List.getElem_mem lg)) tok.i1 hl)
def wt (n s : Nat) : Nat := 5 ^ (n - s)
def sumF (f : Nat → Pipe → Nat) : Nat → List Pipe → Nat
  | _, [] => 0
  | k, p :: r => f k p + sumF f (k + 1) r
theorem sumF_lin {f1 f2 f3 f4 : Nat → Pipe → Nat} : ∀ (L : List Pipe) (k : Nat), (∀ j p, L[j]? = some p → f1 (k + j) p + f2 (k + j) p = f3 (k + j) p + f4 (k + j) p) → sumF f1 k L + sumF f2 k L = sumF f3 k L + sumF f4 k L
  | [], _, _ => rfl
  | p :: r, k, h => by
    have h0 := h 0 p rfl
    have ih := sumF_lin (f1 := f1) (f2 := f2) (f3 := f3) (f4 := f4) r (k + 1) fun j p hj => by
      have e : k + 1 + j = k + (j + 1) := by omega
      rw [e]
      exact h (j + 1) p hj
    simp only [Nat.add_zero] at h0
    show f1 k p + _ + (f2 k p + _) = f3 k p + _ + (f4 k p + _)
    omega
theorem sumF_ge {f : Nat → Pipe → Nat} : ∀ (L : List Pipe) (k j : Nat) (p : Pipe), L[j]? = some p → f (k + j) p ≤ sumF f k L
  | [], _, j, _, h => by simp at h
  | q :: r, k, 0, p, h => by
    cases Option.some.inj h
    show f k q ≤ f k q + _
    omega
  | q :: r, k, j + 1, p, h => by
    have := sumF_ge (f := f) r (k + 1) j p h
    rw [show k + 1 + j = k + (j + 1) by omega] at this
    show _ ≤ f k q + _
    omega
theorem sumF_le {f : Nat → Pipe → Nat} {W : Nat} (P : Pipe → Bool) : ∀ (L : List Pipe) (k : Nat), (∀ j p, L[j]? = some p → f (k + j) p ≤ if P p = true then W else 0) → sumF f k L ≤ W * (L.filter P).length
  | [], _, _ => Nat.zero_le _
  | p :: r, k, h => by
    have h0 := h 0 p rfl
    have ih := sumF_le (f := f) (W := W) P r (k + 1) fun j p hj => by
      have e : k + 1 + j = k + (j + 1) := by omega
      rw [e]
      exact h (j + 1) p hj
    simp only [Nat.add_zero] at h0
    show f k p + _ ≤ _
    by_cases z : P p = true
    · rw [List.filter_cons, if_pos z, List.length_cons, Nat.mul_add, Nat.mul_one]
      rw [if_pos z] at h0
      omega
    · rw [List.filter_cons, if_neg z]
      rw [if_neg z] at h0
      omega
def Phi (ts : List Stn) (qs : List Pipe) (σ : Sta) : Nat := σ.rs.length * wt ts.length 0 + sumF (fun j p => ((σ.ct[j]?).getD []).length * wt ts.length p.2.2.1) 0 qs
theorem lines_ne (r : Rd) : ∃ l, l ∈ r.lines := by cases r <;> exact ⟨_, List.mem_cons_self⟩
theorem outs_two {ts : List Stn} {qs : List Pipe} (yo : YdOk ts qs) (s : Nat) : (qs.filter fun p => decide (p.1 = s)).length ≤ 2 := by
  have h1 : ((qs.filter fun p => decide (p.1 = s)).map pb).Nodup := yo.nb.sublist (List.Sublist.map _ (List.filter_sublist))
  have h2 := nd_len (b := [(s, 0), (s, 1)]) h1 (fun x hx => by
    obtain ⟨p, hp, rfl⟩ := List.mem_map.mp hx
    obtain ⟨hq, he⟩ := List.mem_filter.mp hp
    have he : p.1 = s := by simpa using he
    obtain ⟨t, _, ho, h2⟩ := (yo.pp p hq).b
    have : p.2.1 = 0 ∨ p.2.1 = 1 := by omega
    unfold pb
    rw [he]
    rcases this with e | e <;> simp [e])
  rw [List.length_map] at h2
  exact h2
theorem phi_dec {ts : List Stn} {qs : List Pipe} {σ : Sta} {s : Nat} {r : Rw} (k : NK ts qs) (so : StOk ts qs σ) (hs : s < ts.length) (hr : rowS ts qs σ s = some r) : Phi ts qs (aftS ts qs (exitsOf ts qs) σ s r) < Phi ts qs σ := by
  have et : ts[s]? = some ts[s] := List.getElem?_eq_getElem hs
  have tok := k.yo.ok _ (List.getElem_mem hs)
  have rok := row_in so et tok (by rw [k.sr]; exact hr)
  have full := row_full hr
  have far : ∀ p ∈ qs, p.1 < p.2.2.1 := fun p hp => (k.yo.pp p hp).1
  have lin := sumF_lin (f1 := fun j p => (((aftS ts qs (exitsOf ts qs) σ s r).ct[j]?).getD []).length * wt ts.length p.2.2.1)
    (f2 := fun j p => (if p.2.2.1 = s ∧ p.2.2.2 ∈ (sgAt ts σ s).reads.lines then 1 else 0) * wt ts.length p.2.2.1)
    (f3 := fun j p => ((σ.ct[j]?).getD []).length * wt ts.length p.2.2.1) (f4 := fun j p => (if p.1 = s then (gvAt r p.2.1).length else 0) * wt ts.length p.2.2.1) qs 0 (fun j p hj => by
      rw [Nat.zero_add]
      rw [ct_aft hj, ← Nat.add_mul, ← Nat.add_mul]
      congr 1
      rw [List.length_append]
      have hg : (if p.1 = s then gvAt r p.2.1 else []).length = if p.1 = s then (gvAt r p.2.1).length else 0 := by split <;> rfl
      rw [hg]
      by_cases z : p.2.2.1 = s ∧ p.2.2.2 ∈ (sgAt ts σ s).reads.lines
      · have ne := read_ne k.yo.ne far hj z.1 z.2 full
        have := List.length_pos_iff.mpr ne
        rw [if_pos z, if_pos z, List.length_drop]
        omega
      · rw [if_neg z, if_neg z]
        omega)
  have up : sumF (fun j p => (if p.1 = s then (gvAt r p.2.1).length else 0) * wt ts.length p.2.2.1) 0 qs ≤ (2 * wt ts.length (s + 1)) * (qs.filter fun p => decide (p.1 = s)).length := sumF_le _ qs 0 fun j p hj => by
    by_cases z : p.1 = s
    · rw [if_pos z, decide_eq_true z, if_pos rfl]
      have lt := far p (List.mem_of_getElem? hj)
      exact Nat.mul_le_mul (gv_short rok _) (Nat.pow_le_pow_right (by decide) (by omega))
    · rw [if_neg z, decide_eq_false z, Nat.zero_mul]
      exact Nat.zero_le _
  have o2 := outs_two k.yo s
  have up2 : sumF (fun j p => (if p.1 = s then (gvAt r p.2.1).length else 0) * wt ts.length p.2.2.1) 0 qs ≤ 4 * wt ts.length (s + 1) := Nat.le_trans up (by
    have := Nat.mul_le_mul_left (2 * wt ts.length (s + 1)) o2
    omega)
  have w1 : wt ts.length s = 5 * wt ts.length (s + 1) := by
    unfold wt
    rw [show ts.length - s = (ts.length - (s + 1)) + 1 by omega, Nat.pow_succ, Nat.mul_comm]
  have wp : 0 < wt ts.length (s + 1) := Nat.pow_pos (by decide)
  obtain ⟨l, hl⟩ := lines_ne (sgAt ts σ s).reads
  have ft := flat_full _ full _ hl
  unfold Phi
  generalize sumF (fun j p => (((aftS ts qs (exitsOf ts qs) σ s r).ct[j]?).getD []).length * wt ts.length p.2.2.1) 0 qs = S1 at *
  generalize sumF (fun j p => ((σ.ct[j]?).getD []).length * wt ts.length p.2.2.1) 0 qs = S3 at *
  generalize sumF (fun j p => (if p.1 = s then (gvAt r p.2.1).length else 0) * wt ts.length p.2.2.1) 0 qs = S4 at *
  have ers : (aftS ts qs (exitsOf ts qs) σ s r).rs = if s = 0 ∧ 0 ∈ (sgAt ts σ s).reads.lines then σ.rs.drop 1 else σ.rs := rfl
  rcases lines_k k so hs l hl with e | ⟨p, hp, e⟩
  · obtain ⟨rfl, rfl⟩ := Prod.mk.inj e
    have hne : σ.rs ≠ [] := by unfold txAt at ft; rw [if_pos rfl] at ft; exact ft
    have hpos := List.length_pos_iff.mpr hne
    have e1 : (aftS ts qs (exitsOf ts qs) σ 0 r).rs.length + 1 = σ.rs.length := by rw [ers, if_pos ⟨rfl, hl⟩, List.length_drop]; omega
    have e2 : (aftS ts qs (exitsOf ts qs) σ 0 r).rs.length * wt ts.length 0 + wt ts.length 0 = σ.rs.length * wt ts.length 0 := by rw [← e1, Nat.add_mul, Nat.one_mul]
    omega
  · obtain ⟨j, hj⟩ := List.mem_iff_getElem?.mp hp
    have e1 : p.2.2.1 = s := (Prod.mk.inj e).1
    have e2 : p.2.2.2 = l := (Prod.mk.inj e).2
    have ge := sumF_ge (f := fun j p => (if p.2.2.1 = s ∧ p.2.2.2 ∈ (sgAt ts σ s).reads.lines then 1 else 0) * wt ts.length p.2.2.1) qs 0 j p hj
    rw [if_pos ⟨e1, by rw [e2]; exact hl⟩, e1, Nat.one_mul] at ge
    have le : (aftS ts qs (exitsOf ts qs) σ s r).rs.length ≤ σ.rs.length := by
      rw [ers]
      split
      · rw [List.length_drop]; omega
      · exact Nat.le_refl _
    have le2 := Nat.mul_le_mul_right (wt ts.length 0) le
    omega
end FY

set_option Elab.async false
set_option linter.all false
set_option maxRecDepth 100000
set_option maxHeartbeats 1000000
namespace FY
section
variable {ts : List Stn} {qs : List Pipe} {z : Option (List Nat)}
theorem able_nil {σ : Sta} (h : ableS ts qs σ z = []) {s : Nat} (hs : s < ts.length) (cs : canS ts qs σ s z = true) : False := by
  have := (able_mem (ts := ts) (qs := qs) (σ := σ) (z := z) (s := s)).mpr ⟨hs, cs⟩
  rw [h] at this
  cases this
/-- a beat that can be done: what is behind it -/
theorem beat_ok (k : NK ts qs) {σ : Sta} {s n : Nat} (so : StOk ts qs σ) (hs : s < ts.length) (cs : canS ts qs σ s z = true) (bd : BdS n σ) (hn : n + 2 ≤ 100000) : ∃ r, rowS ts qs σ s = some r ∧ aftR ts qs σ s = aftS ts qs (exitsOf ts qs) σ s r ∧ StOk ts qs (aftR ts qs σ s) ∧ FlOk (aftR ts qs σ s) ∧ BdS (n + 2) (aftR ts qs σ s) ∧ Phi ts qs (aftR ts qs σ s) < Phi ts qs σ := by
  obtain ⟨r, hr⟩ := can_row cs
  obtain ⟨a, b, c⟩ := aft_ok so k.sr (List.getElem?_eq_getElem hs) (k.yo.ok _ (List.getElem_mem hs)) hr bd hn
  have e := aftR_eq k.sr hr
  refine ⟨r, hr, e, ?_, ?_, ?_, ?_⟩
  · rw [e]; exact a
  · rw [e]; exact b
  · rw [e]; exact c
  · rw [e]; exact phi_dec k so hs hr
theorem fin_ex (k : NK ts qs) : ∀ (m : Nat) (σ : Sta) (n : Nat), StOk ts qs σ → FlOk σ → BdS n σ → Phi ts qs σ ≤ m → n + 2 * m + 2 ≤ 100000 → ∃ run σ', FinS ts qs z σ run σ' ∧ run.length ≤ Phi ts qs σ
  | m, σ, n, so, fo, bd, hm, hn => by
    cases ea : ableS ts qs σ z with
    | nil => exact ⟨[], σ, .stop so fo (by rw [k.sr]; exact ea), Nat.zero_le _⟩
    | cons s ss =>
      obtain ⟨hs, cs⟩ := able_can ea
      obtain ⟨r, hr, e, so', fo', bd', dec⟩ := beat_ok k so hs cs bd (by omega)
      cases m with
      | zero => omega
      | succ m =>
        obtain ⟨run, σ', f, l⟩ := fin_ex k m _ (n + 2) so' fo' bd' (by omega) (by omega)
        exact ⟨s :: run, σ', .beat so fo (by rw [k.sr]; exact ea) f, by rw [List.length_cons]; omega⟩
theorem FinS.run {σ σ' : Sta} {run : List Nat} (h : FinS ts qs z σ run σ') : RunS ts qs z σ run σ' ∧ ableS ts (srt qs) σ' z = [] := by
  induction h with
  | stop a b c => exact ⟨.nil a b, c⟩
  | beat a b c _ ih =>
    obtain ⟨hs, cs⟩ := able_can c
    exact ⟨.cons a b hs cs ih.1, ih.2⟩
theorem RunS.bd (k : NK ts qs) {σ σ' : Sta} {run : List Nat} (h : RunS ts qs z σ run σ') : ∀ {n : Nat}, BdS n σ → n + 2 * run.length ≤ 100000 → BdS (n + 2 * run.length) σ' ∧ Phi ts qs σ' + run.length ≤ Phi ts qs σ := by
  induction h with
  | nil a b => intro n bd _; exact ⟨bd, Nat.le_refl _⟩
  | @cons σ σ' s r a b c d _ ih =>
    intro n bd hn
    rw [List.length_cons] at hn ⊢
    obtain ⟨r, hr, e, so', fo', bd', dec⟩ := beat_ok k a c (by rw [← k.sr]; exact d) bd (by omega)
    obtain ⟨h1, h2⟩ := ih bd' (by omega)
    have e2 : ∀ m : Nat, n + 2 * (m + 1) = n + 2 + 2 * m := fun m => by omega
    exact ⟨by rw [e2]; exact h1, by omega⟩
theorem RunS.move (k : NK ts qs) {σ σ' : Sta} {run : List Nat} (h : RunS ts qs z σ run σ') : ableS ts qs σ' z = [] → ∀ {n : Nat}, BdS n σ → n + 2 * run.length + 2 ≤ 100000 → ∀ {s : Nat}, s < ts.length → canS ts qs σ s z = true → ∃ run', run.Perm (s :: run') ∧ RunS ts qs z (aftR ts qs σ s) run' σ' := by
  induction h with
  | nil a b => intro e n _ _ s hs cs; exact (able_nil e hs cs).elim
  | @cons σ σ' t rest a b c d h ih =>
    intro e n bd hn s hs cs
    rw [List.length_cons] at hn
    have d' : canS ts qs σ t z = true := by rw [← k.sr]; exact d
    by_cases q : t = s
    · subst q
      exact ⟨rest, List.Perm.refl _, h⟩
    obtain ⟨rt, hrt, et, sot, fot, bdt, _⟩ := beat_ok k a c d' bd (by omega)
    obtain ⟨rs, hrs, es, sos, fos, bds, _⟩ := beat_ok k a hs cs bd (by omega)
    have cst : canS ts qs (aftR ts qs σ t) s z = true := by rw [et]; exact can_aft k.yo.nb q (lines_k k a hs) cs
    have cts : canS ts qs (aftR ts qs σ s) t z = true := by rw [es]; exact can_aft k.yo.nb (Ne.symm q) (lines_k k a c) d'
    obtain ⟨run', pm, rn⟩ := ih e bdt (by omega) hs cst
    have h1 : rowS ts qs (aftR ts qs σ t) s = some rs := by rw [et]; exact row_aft q (lines_k k a hs) hrs
    have h2 : rowS ts qs (aftR ts qs σ s) t = some rt := by rw [es]; exact row_aft (Ne.symm q) (lines_k k a c) hrt
    have cm : aftR ts qs (aftR ts qs σ t) s = aftR ts qs (aftR ts qs σ s) t := by
      rw [aftR_eq k.sr h1, aftR_eq k.sr h2, et, es]
      exact aft_comm k.yo.ne (fun p hp => (k.yo.pp p hp).1) q hrt hrs
    rw [cm] at rn
    refine ⟨t :: run', (pm.cons t).trans (List.Perm.swap s t run'), .cons sos fos c (by rw [k.sr]; exact cts) rn⟩
/-- all full runs come to the same end by the same beats -/
theorem RunS.one (k : NK ts qs) : ∀ {r1 r2 : List Nat} {σ σ1 σ2 : Sta} {n : Nat}, RunS ts qs z σ r1 σ1 → ableS ts qs σ1 z = [] → RunS ts qs z σ r2 σ2 → ableS ts qs σ2 z = [] → BdS n σ → n + 2 * r1.length + 2 ≤ 100000 → n + 2 * r2.length + 2 ≤ 100000 → σ1 = σ2 ∧ r1.Perm r2
  | [], r2, σ, σ1, σ2, n, h1, e1, h2, e2, bd, b1, b2 => by
    cases h1
    cases h2 with
    | nil _ _ => exact ⟨rfl, List.Perm.refl _⟩
    | cons _ _ c d _ => exact (able_nil e1 c (by rw [← k.sr]; exact d)).elim
  | s :: r1, r2, σ, σ1, σ2, n, h1, e1, h2, e2, bd, b1, b2 => by
    cases h1 with
    | cons a b c d h1 =>
      have d' : canS ts qs σ s z = true := by rw [← k.sr]; exact d
      rw [List.length_cons] at b1
      obtain ⟨run', pm, rn⟩ := h2.move k e2 bd b2 c d'
      obtain ⟨_, _, _, _, _, bd', _⟩ := beat_ok k a c d' bd (by omega)
      have l2 := pm.length_eq
      rw [List.length_cons] at l2
      obtain ⟨x, y⟩ := RunS.one k h1 e1 rn e2 bd' (by omega) (by omega)
      exact ⟨x, (y.cons s).trans pm.symm⟩
theorem RunS.app {σ σ1 σ2 : Sta} {r1 r2 : List Nat} (h1 : RunS ts qs z σ r1 σ1) (h2 : RunS ts qs z σ1 r2 σ2) : RunS ts qs z σ (r1 ++ r2) σ2 := by
  induction h1 with
  | nil _ _ => exact h2
  | cons a b c d _ ih => exact .cons a b c d (ih h2)
/-- a run: the stream is read from its beginning, the flows grow -/
theorem RunS.grow (k : NK ts qs) {σ σ' : Sta} {run : List Nat} (h : RunS ts qs z σ run σ') : (∃ j, σ'.rs = σ.rs.drop j ∧ j ≤ σ.rs.length) ∧ σ'.fl.length = σ.fl.length ∧ ∀ i : Nat, ∃ more, (σ'.fl[i]?).getD [] = (σ.fl[i]?).getD [] ++ more := by
  induction h with
  | nil _ _ => exact ⟨⟨0, rfl, Nat.zero_le _⟩, rfl, fun i => ⟨[], by simp⟩⟩
  | @cons σ σ' s r a b c d _ ih =>
    obtain ⟨⟨j, e1, e2⟩, e3, e4⟩ := ih
    obtain ⟨rw0, hr⟩ := can_row d
    rw [k.sr] at hr
    have e := aftR_eq k.sr hr
    rw [e] at e1 e2 e3 e4
    have ers : (aftS ts qs (exitsOf ts qs) σ s rw0).rs = if s = 0 ∧ 0 ∈ (sgAt ts σ s).reads.lines then σ.rs.drop 1 else σ.rs := rfl
    have elf : (aftS ts qs (exitsOf ts qs) σ s rw0).fl.length = σ.fl.length := by
      rw [a.lf]
      show ((exitsOf ts qs).mapIdx _).length = _
      rw [List.length_mapIdx]
    refine ⟨?_, by rw [e3, elf], fun i => ?_⟩
    · rw [ers] at e1 e2
      split at e1 <;> rename_i q
      · rw [if_pos q, List.length_drop] at e2
        rw [List.drop_drop] at e1
        by_cases h0 : σ.rs.length = 0
        · have : σ.rs = [] := List.length_eq_zero_iff.mp h0
          refine ⟨0, ?_, Nat.zero_le _⟩
          rw [e1, this]; simp
        · exact ⟨1 + j, e1, by omega⟩
      · rw [if_neg q] at e2
        exact ⟨j, e1, e2⟩
    · obtain ⟨more, hm⟩ := e4 i
      cases hl : (exitsOf ts qs)[i]? with
      | none =>
        have hi := List.getElem?_eq_none_iff.mp hl
        have n1 : σ'.fl[i]? = none := List.getElem?_eq_none_iff.mpr (by rw [e3, elf, a.lf]; exact hi)
        have n2 : σ.fl[i]? = none := List.getElem?_eq_none_iff.mpr (by rw [a.lf]; exact hi)
        rw [n1, n2]
        exact ⟨[], rfl⟩
      | some l =>
        rw [hm, fl_aft hl, List.append_assoc]
        exact ⟨_, rfl⟩
end
end FY

set_option Elab.async false
set_option linter.all false
set_option maxRecDepth 100000
set_option maxHeartbeats 4000000
namespace FY
open PySem L2 FYR
theorem tNext_i {D : Ends} {σ : St} {H : Hp} (h : D.nx σ H) : tNext D σ H := h
theorem tRet_i {te : TE} {D : Ends} {σ : St} {H : Hp} (h : te σ H D.rt) : tRet te D σ H := h
theorem seq_i {t1 t2 : TS} {D : Ends} {σ : St} {H : Hp} (h : t1 { D with nx := t2 D } σ H) : tSeq t1 t2 D σ H := h
theorem gN_i {i : Nat} {v : V} {k : St → Hp → Prop} {σ : St} {H : Hp} (h : k (σ.set i (some v)) H) : gName i v σ H k := h
theorem seq_splitB {t1 t2 : TS} {D : Ends} {σ : St} {H : Hp} (R : St → Hp → Prop) (h1 : ∀ D' : Ends, D'.rt = D.rt → (∀ σ' H', R σ' H' → D'.nx σ' H') → t1 D' σ H) (h2 : ∀ σ' H', R σ' H' → t2 D σ' H') : tSeq t1 t2 D σ H := h1 _ rfl h2
theorem hu9 {X : Cx} {j : Nat} (r : Room j X.A) : X.A.units + 9 < cLine := by have := r.units; omega
theorem hu8 {X : Cx} {j : Nat} (r : Room j X.A) : X.A.units + 8 < cLine := by have := r.units; omega
theorem kCnt {X : Cx} (K : PySem.W.Frag) (hK : X.K = K) : MtR X "list.count" (rCntI K) := by subst hK; exact mt_lcount
/-- the law's beginnings of runs -/
structure RK (A : List Addr) (H : Hp) (ph wv v zv : V) (ts : List Stn) (qs : List Pipe) (bg : Bg) (z : Option (List Nat)) (σ : Sta) (n : Nat) : Prop where
  lk : LK A H ph wv ts qs bg
  sv : StaA H v σ
  so : StOk ts qs σ
  fo : FlOk σ
  bd : BdS n σ
  sz : SzA H zv z
  sq : SzOk qs z
  hn : n + 2 * Phi ts qs σ + 2 ≤ 100000
theorem LK.nk {A : List Addr} {H : Hp} {ph wv : V} {ts : List Stn} {qs : List Pipe} {bg : Bg} (h : LK A H ph wv ts qs bg) : NK ts qs := ⟨h.yo, h.sr, h.al⟩
def spFirstL : Sp := fun vs H Q _ => ∃ (A : List Addr) (ph wv v zv : V) (ts : List Stn) (qs : List Pipe) (bg : Bg) (z : Option (List Nat)) (σ : Sta) (n : Nat), vs = [ph, wv, v, zv] ∧ RK A H ph wv v zv ts qs bg z σ n ∧ ∀ H' p L u run σ', Same H H' → H' p = some (.tup [.ref L, u]) → H L = none → H' L = some (.lst (nV run)) → StaA H' u σ' → FinS ts qs z σ run σ' → run.length ≤ Phi ts qs σ → Q (.ref p) H'
section
variable {P : Program} {w : World} {K : PySem.W.Frag} {mg : Str → Option Value} {base : Heap} {aS a1 a2 aL aT : Addr} {f : Addr} {fd : FuncData} {C CD CY : Addr} {mc : Value}
abbrev s_law_first_run : Stmt := top 83
abbrev N_law_first_run : List Str := ["_law_plan_here", "_law_wires_here", "_law_here", "_law_room", "_law_row_here", "_law_able_here"]
theorem sc_law_first_run : FnScope N_law_first_run ["_law_plan_here", "_law_wires_here", "_law_here", "_law_room"] (defScope s_law_first_run) := ⟨rfl, rfl, rfl, by decide +kernel, rfl, by decide +kernel, by decide +kernel⟩
theorem ok_law_first_run (F : Fun K "_law_first_run" "_law_first_run" s_law_first_run f fd) (T : Txt K mg aS a1 a2) (c__law_able : C8.Cal P w K mg base 3 "_law_able" spAbleL []) (c__law_behind : C8.Cal P w K mg base 2 "_law_behind" spBehindL []) : FnOk P w K mg base CX0 4 f fd ["_law_plan_here", "_law_wires_here", "_law_here", "_law_room"] spFirstL := by
  refine F.ok sc_law_first_run (fun vs H Q E h => ?_) (fun cdv A0 outer s0 H vs Q E hr h => ?_)
  · obtain ⟨A, ph, wv, v, zv, ts, qs, bg, z, σ, n, rfl, _⟩ := h
    rfl
  obtain ⟨A, ph, wv, v, zv, ts, qs, bg, z, σ, n, rfl, rk, q⟩ := h
  obtain ⟨lk, sv, so, fo, bd, sz0, sq, hn⟩ := rk
  have nk := lk.nk
  have t12 := lk.yo.m2
  refine ⟨_, (pss_cons (ps_par (i := 4) (j := 5) rfl sc_law_first_run.nd rfl rfl (by decide) rfl rfl (pa_cons (pe_lst pa_nil) (pa_cons (C8.pe_c c__law_able hr (by decide) rfl (pa_cons (pv 0) (pa_cons (pv 1) (pa_cons (pv 2) (pa_cons (pv 3) pa_nil))))) pa_nil)) rfl)
        (pss_cons (ps_while PassesOwn.never (pt_cmpR (kNeD K rfl hr.units) (pv 5) (pe_lst pa_nil) (nomark _))
        (pss_cons (ps_expr (kBm K rfl PySem.F.plainAttrs_list PySem.F.slot_list_append PySem.F.type_list_append mt_append (pv 4) (pa_cons (pe_ix (kIxL K rfl) (pv 5) pe_int (fun _ _ => rfl)) pa_nil)))
        (pss_cons (ps_set (i := 2) sc_law_first_run.nd rfl (Or.inl rfl) (C8.pe_c c__law_behind hr (by decide) rfl (pa_cons (pv 0) (pa_cons (pv 1) (pa_cons (pv 2) (pa_cons (pe_ix (kIxL K rfl) (pv 5) pe_int (fun _ _ => rfl)) pa_nil))))))
        (pss_one (ps_set (i := 5) sc_law_first_run.nd rfl (Or.inl rfl) (C8.pe_c c__law_able hr (by decide) rfl (pa_cons (pv 0) (pa_cons (pv 1) (pa_cons (pv 2) (pa_cons (pv 3) pa_nil))))))))))
        (pss_one (ps_ret (pe_tup (pa_cons (pv 4) (pa_cons (pv 2) pa_nil))))))), ?_⟩
  refine ⟨sz rfl, fun L hL => ?_⟩
  have k1 := same_new hL (.lst [])
  refine ⟨_, rfl, _, rfl, _, rfl, _, rfl, A, ph, wv, v, zv, σ, z, ts, qs, bg, rfl, lk.same k1, sv.keep (Tups.of k1), so, sz0.keep (Tups.of k1), sq, fun H2 B s2 hB0 hB => ⟨_, _, rfl, ?_⟩⟩
  have hL2 := s2 _ _ (upd_same (H := H) (a := L) (o := .lst []))
  refine ⟨fun m τ H' => ∃ (u : V) (B1 : Addr) (σ1 : Sta) (dn : List Nat), τ = [some ph, some wv, some u, some zv, some (.ref L), some (.ref B1)] ∧ Same H H' ∧ StaA H' u σ1 ∧ StOk ts qs σ1 ∧ FlOk σ1 ∧ BdS (n + 2 * dn.length) σ1 ∧ dn.length + Phi ts qs σ1 ≤ Phi ts qs σ ∧ (∀ rest σ', FinS ts qs z σ1 rest σ' → FinS ts qs z σ (dn ++ rest) σ') ∧ H' L = some (.lst (nV dn)) ∧ H' B1 = some (.lst (nV (ableS ts qs σ1 z))) ∧ B1 ≠ L ∧ Phi ts qs σ1 = m, ⟨_, v, B, σ, [], rfl, k1.trans' s2, sv.keep (Tups.of (k1.trans' s2)), so, fo, bd, by simp, fun rest σ' f => f, hL2, hB, (fun e => by rw [e, upd_same] at hB0; cases hB0), rfl⟩, ?_⟩
  rintro m τ G ⟨u, B1, σ1, dn, rfl, sm, su, so1, fo1, bd1, le1, f1, hL1, hB1, nBL, rfl⟩
  obtain ⟨a1, a2⟩ := able_small (qs := qs) (σ := σ1) (z := z) t12
  refine ⟨_, rfl, sz rfl, fun D hD => ?_⟩
  have k3 := same_new hD (.lst [])
  refine ⟨_, .list [], .lst (SqL.of (k3 _ _ hB1)) (dpints _), .lst (SqL.of upd_same) .nil, shp_ints a1 (by omega), by rfl, _, rfl, ?_⟩
  rw [eqv_nil]
  have smG := sm.trans' k3
  have suG := su.keep (Tups.of k3)
  have hLG := k3 _ _ hL1
  have hBG := k3 _ _ hB1
  clear k3 hD su hL1 hB1 sm
  generalize upd G D (.lst []) = G1 at *
  cases ea : ableS ts qs σ1 z with
  | nil =>
    refine iteFd rfl ?_
    exact ⟨_, rfl, _, rfl, sz rfl, fun p hp => q _ _ L u dn σ1 (smG.trans' (same_new hp _)) upd_same hL (same_new hp _ _ _ hLG) (suG.keep (Tups.of (same_new hp _))) (by have := f1 [] σ1 (.stop so1 fo1 (by rw [nk.sr]; exact ea)); rwa [List.append_nil] at this) (by omega)⟩
  | cons s ss =>
    obtain ⟨hs, cs⟩ := able_can ea
    obtain ⟨r, hr1, er, so2, fo2, bd2, dec⟩ := beat_ok nk so1 hs cs bd1 (by omega)
    rw [ea] at hBG
    refine iteTd rfl ⟨fun τ' H' => ∃ (u : V) (B1 : Addr) (σ2 : Sta) (dn : List Nat), τ' = [some ph, some wv, some u, some zv, some (.ref L), some (.ref B1)] ∧ Same H H' ∧ StaA H' u σ2 ∧ StOk ts qs σ2 ∧ FlOk σ2 ∧ BdS (n + 2 * dn.length) σ2 ∧ dn.length + Phi ts qs σ2 ≤ Phi ts qs σ ∧ (∀ rest σ', FinS ts qs z σ2 rest σ' → FinS ts qs z σ (dn ++ rest) σ') ∧ H' L = some (.lst (nV dn)) ∧ H' B1 = some (.lst (nV (ableS ts qs σ2 z))) ∧ B1 ≠ L ∧ Phi ts qs σ2 < Phi ts qs σ1, fun τ' H' ⟨u, B1, σ2, dn, h1, h2, h3, h4, h5, h6, h7, h8, h9, h10, h11, h12⟩ => ⟨Phi ts qs σ2, h12, u, B1, σ2, dn, h1, h2, h3, h4, h5, h6, h7, h8, h9, h10, h11, rfl⟩, ?_⟩
    refine ⟨_, rfl, .inl ⟨rfl, _, SqL.of hLG⟩, _, rfl, B1, _, _, .int (s : Nat), rfl, rfl, SqL.of hBG, L2.atI_nat (j := 0) rfl, L, _, _, rfl, rfl, hLG, by rw [nV_len]; exact Nat.lt_of_lt_of_le (show dn.length < 100000 by omega) (by decide), ?_⟩
    have en : nV dn ++ [.int (s : Nat)] = nV (dn ++ [s]) := by unfold nV; rw [List.map_append]; rfl
    rw [en]
    have sm5 : Same H (upd G1 L (.lst (nV (dn ++ [s])))) := same_at smG hL
    have hL5 : (upd G1 L (.lst (nV (dn ++ [s])))) L = some (.lst (nV (dn ++ [s]))) := upd_same
    have su5 := suG.keep (NL.at (o := .lst (nV (dn ++ [s]))) hLG).tups
    have hB5 : (upd G1 L (.lst (nV (dn ++ [s])))) B1 = some (.lst (nV (s :: ss))) := (upd_ne nBL).trans hBG
    generalize upd G1 L (.lst (nV (dn ++ [s]))) = G5 at *
    refine ⟨_, rfl, _, rfl, _, rfl, _, rfl, B1, _, _, .int (s : Nat), rfl, rfl, SqL.of hB5, L2.atI_nat (j := 0) rfl, A, ph, wv, u, σ1, s, r, ts, qs, bg, rfl, lk.same sm5, su5, so1, fo1, hs, hr1, fun G6 u6 s6 su6 => ?_⟩
    rw [← er] at su6
    have sm6 := sm5.trans' s6
    refine ⟨_, rfl, _, rfl, _, rfl, _, rfl, A, ph, wv, u6, zv, aftR ts qs σ1 s, z, ts, qs, bg, rfl, lk.same sm6, su6, so2, sz0.keep (Tups.of sm6), sq, fun G7 B7 s7 hB70 hB7 => ?_⟩
    have ll : (dn ++ [s]).length = dn.length + 1 := by simp
    refine ⟨u6, B7, aftR ts qs σ1 s, dn ++ [s], rfl, sm6.trans' s7, su6.keep (Tups.of s7), so2, fo2, ?_, by omega, fun rest σ' f => ?_, s7 _ _ (s6 _ _ hL5), hB7, (fun e => by rw [e, s6 _ _ hL5] at hB70; cases hB70), dec⟩
    · rw [ll]
      exact bd2
    · rw [List.append_assoc]
      exact f1 _ _ (.beat so1 fo1 (by rw [nk.sr]; exact ea) f)
def spDrawnL : Sp := fun vs H Q _ => ∃ (A : List Addr) (p : Addr) (ph wv v zv : V) (ts : List Stn) (qs : List Pipe) (bg : Bg) (z : Option (List Nat)) (σ : Sta) (n : Nat), vs = [.ref p, ph, wv, v, zv] ∧ Pot p H ∧ p ∈ A ∧ RK A H ph wv v zv ts qs bg z σ n ∧ ∀ H' L run σ', Kp p H H' → Pot p H' → H L = none → H' L = some (.lst (nV run)) → RunS ts qs z σ run σ' → ableS ts qs σ' z = [] → run.length ≤ Phi ts qs σ → Q (.ref L) H'
abbrev s_law_drawn_run : Stmt := top 86
abbrev N_law_drawn_run : List Str := ["_law_pot_here", "_law_plan_here", "_law_wires_here", "_law_here", "_law_room", "_law_row_here", "_law_able_here"]
theorem sc_law_drawn_run : FnScope N_law_drawn_run ["_law_pot_here", "_law_plan_here", "_law_wires_here", "_law_here", "_law_room"] (defScope s_law_drawn_run) := ⟨rfl, rfl, rfl, by decide +kernel, rfl, by decide +kernel, by decide +kernel⟩
theorem ok_law_drawn_run (F : Fun K "_law_drawn_run" "_law_drawn_run" s_law_drawn_run f fd) (T : Txt K mg aS a1 a2) (c__law_pick : C8.Cal P w K mg base 2 "_law_pick" spPick []) (c__law_able : C8.Cal P w K mg base 3 "_law_able" spAbleL []) (c__law_behind : C8.Cal P w K mg base 2 "_law_behind" spBehindL []) : FnOk P w K mg base CX0 4 f fd ["_law_pot_here", "_law_plan_here", "_law_wires_here", "_law_here", "_law_room"] spDrawnL := by
  refine F.ok sc_law_drawn_run (fun vs H Q E h => ?_) (fun cdv A0 outer s0 H vs Q E hr h => ?_)
  · obtain ⟨A, p, ph, wv, v, zv, ts, qs, bg, z, σ, n, rfl, _⟩ := h
    rfl
  obtain ⟨A, p, ph, wv, v, zv, ts, qs, bg, z, σ, n, rfl, po, pA, rk, q⟩ := h
  obtain ⟨lk, sv, so, fo, bd, sz0, sq, hn⟩ := rk
  have nk := lk.nk
  have t12 := lk.yo.m2
  refine ⟨_, (pss_cons (ps_par (i := 5) (j := 6) rfl sc_law_drawn_run.nd rfl rfl (by decide) rfl rfl (pa_cons (pe_lst pa_nil) (pa_cons (C8.pe_c c__law_able hr (by decide) rfl (pa_cons (pv 1) (pa_cons (pv 2) (pa_cons (pv 3) (pa_cons (pv 4) pa_nil))))) pa_nil)) rfl)
        (pss_cons (ps_while PassesOwn.never (pt_cmpR (kNeD K rfl hr.units) (pv 6) (pe_lst pa_nil) (nomark _))
        (pss_cons (ps_expr (kBm K rfl PySem.F.plainAttrs_list PySem.F.slot_list_append PySem.F.type_list_append mt_append (pv 5) (pa_cons (C8.pe_c c__law_pick hr (by decide) rfl (pa_cons (pv 0) (pa_cons (pv 6) pa_nil))) pa_nil)))
        (pss_cons (ps_set (i := 3) sc_law_drawn_run.nd rfl (Or.inl rfl) (C8.pe_c c__law_behind hr (by decide) rfl (pa_cons (pv 1) (pa_cons (pv 2) (pa_cons (pv 3) (pa_cons (pe_ix (kIxL K rfl) (pv 5) (pe_un un_neg pe_int) (fun _ _ => rfl)) pa_nil))))))
        (pss_one (ps_set (i := 6) sc_law_drawn_run.nd rfl (Or.inl rfl) (C8.pe_c c__law_able hr (by decide) rfl (pa_cons (pv 1) (pa_cons (pv 2) (pa_cons (pv 3) (pa_cons (pv 4) pa_nil))))))))))
        (pss_one (ps_ret (pv 5))))), ?_⟩
  refine ⟨sz rfl, fun L hL => ?_⟩
  have k1 := same_new hL (.lst [])
  have nLp : L ≠ p := po.ne hL
  refine ⟨_, rfl, _, rfl, _, rfl, _, rfl, A, ph, wv, v, zv, σ, z, ts, qs, bg, rfl, lk.same k1, sv.keep (Tups.of k1), so, sz0.keep (Tups.of k1), sq, fun H2 B s2 hB0 hB => ⟨_, _, rfl, ?_⟩⟩
  have hL2 := s2 _ _ (upd_same (H := H) (a := L) (o := .lst []))
  have po2 := po.same (k1.trans' s2)
  refine ⟨fun m τ H' => ∃ (u : V) (B1 : Addr) (σ1 : Sta) (dn : List Nat), τ = [some (.ref p), some ph, some wv, some u, some zv, some (.ref L), some (.ref B1)] ∧ Kp p H H' ∧ Pot p H' ∧ StaA H' u σ1 ∧ StOk ts qs σ1 ∧ FlOk σ1 ∧ BdS (n + 2 * dn.length) σ1 ∧ dn.length + Phi ts qs σ1 ≤ Phi ts qs σ ∧ (∀ rest σ', RunS ts qs z σ1 rest σ' → RunS ts qs z σ (dn ++ rest) σ') ∧ H' L = some (.lst (nV dn)) ∧ H' B1 = some (.lst (nV (ableS ts qs σ1 z))) ∧ B1 ≠ L ∧ B1 ≠ p ∧ Phi ts qs σ1 = m, ⟨_, v, B, σ, [], rfl, Kp.of (k1.trans' s2), po2, sv.keep (Tups.of (k1.trans' s2)), so, fo, bd, by simp, fun rest σ' f => f, hL2, hB, (fun e => by rw [e, upd_same] at hB0; cases hB0), (po.same k1).ne hB0, rfl⟩, ?_⟩
  rintro m τ G ⟨u, B1, σ1, dn, rfl, sm, pG, su, so1, fo1, bd1, le1, f1, hL1, hB1, nBL, nBp, rfl⟩
  obtain ⟨a1, a2⟩ := able_small (qs := qs) (σ := σ1) (z := z) t12
  refine ⟨_, rfl, sz rfl, fun D hD => ?_⟩
  have k3 := same_new hD (.lst [])
  refine ⟨_, .list [], .lst (SqL.of (k3 _ _ hB1)) (dpints _), .lst (SqL.of upd_same) .nil, shp_ints a1 (by omega), by rfl, _, rfl, ?_⟩
  rw [eqv_nil]
  have smG := sm.trans (Kp.of k3)
  have suG := su.keep (Tups.of k3)
  have hLG := k3 _ _ hL1
  have hBG := k3 _ _ hB1
  have pGG := pG.same k3
  clear k3 hD su hL1 hB1 sm pG
  generalize upd G D (.lst []) = G1 at *
  by_cases ea : ableS ts qs σ1 z = []
  · refine iteFd (by rw [decide_eq_true ea]; rfl) ?_
    exact ⟨_, rfl, q _ L dn σ1 smG pGG hL hLG (by have := f1 [] σ1 (.nil so1 fo1); rwa [List.append_nil] at this) ea (by omega)⟩
  refine iteTd (by rw [decide_eq_false ea]; rfl) ⟨fun τ' H' => ∃ (u : V) (B1 : Addr) (σ2 : Sta) (dn : List Nat), τ' = [some (.ref p), some ph, some wv, some u, some zv, some (.ref L), some (.ref B1)] ∧ Kp p H H' ∧ Pot p H' ∧ StaA H' u σ2 ∧ StOk ts qs σ2 ∧ FlOk σ2 ∧ BdS (n + 2 * dn.length) σ2 ∧ dn.length + Phi ts qs σ2 ≤ Phi ts qs σ ∧ (∀ rest σ', RunS ts qs z σ2 rest σ' → RunS ts qs z σ (dn ++ rest) σ') ∧ H' L = some (.lst (nV dn)) ∧ H' B1 = some (.lst (nV (ableS ts qs σ2 z))) ∧ B1 ≠ L ∧ B1 ≠ p ∧ Phi ts qs σ2 < Phi ts qs σ1, fun τ' H' ⟨u, B1, σ2, dn, h1, h2, h2', h3, h4, h5, h6, h7, h8, h9, h10, h11, h11', h12⟩ => ⟨Phi ts qs σ2, h12, u, B1, σ2, dn, h1, h2, h2', h3, h4, h5, h6, h7, h8, h9, h10, h11, h11', rfl⟩, ?_⟩
  refine ⟨_, rfl, .inl ⟨rfl, _, SqL.of hLG⟩, _, rfl, _, rfl, p, B1, _, rfl, pGG, nBp, hBG, by rw [nV_len]; exact Nat.pos_of_ne_zero (fun e => ea (List.length_eq_zero_iff.mp e)), by rw [nV_len]; omega, fun xx G3 hx k4 p4 => ?_⟩
  obtain ⟨s, hsm, rfl⟩ : ∃ s, s ∈ ableS ts qs σ1 z ∧ xx = .int (s : Nat) := by
    unfold nV at hx
    obtain ⟨s', h1, h2⟩ := List.mem_map.mp hx
    exact ⟨s', h1, h2.symm⟩
  obtain ⟨hs, cs⟩ := able_mem.mp hsm
  obtain ⟨r, hr1, er, so2, fo2, bd2, dec⟩ := beat_ok nk so1 hs cs bd1 (by omega)
  have hL3 := k4 _ _ nLp hLG
  refine ⟨L, _, _, rfl, rfl, hL3, by rw [nV_len]; exact Nat.lt_of_lt_of_le (show dn.length < 100000 by omega) (by decide), ?_⟩
  have en : nV dn ++ [.int (s : Nat)] = nV (dn ++ [s]) := by unfold nV; rw [List.map_append]; rfl
  rw [en]
  have sm5 : Kp p H (upd G3 L (.lst (nV (dn ++ [s])))) := kp_at (smG.trans k4) hL
  have p5 : Pot p (upd G3 L (.lst (nV (dn ++ [s])))) := pot_at p4 nLp
  have hL5 : (upd G3 L (.lst (nV (dn ++ [s])))) L = some (.lst (nV (dn ++ [s]))) := upd_same
  have su5 := (suG.keep (pGG.tups k4)).keep (NL.at (o := .lst (nV (dn ++ [s]))) hL3).tups
  generalize upd G3 L (.lst (nV (dn ++ [s]))) = G5 at *
  have lk5 := lk.kl (kl_kp po sm5 pA)
  have sz5 := sz0.keep (kl_kp po sm5 pA).tups
  refine ⟨_, rfl, _, rfl, _, rfl, _, rfl, _, rfl, L, _, _, .int (s : Nat), rfl, rfl, SqL.of hL5, by rw [← en]; exact atI_last _ _, A, ph, wv, u, σ1, s, r, ts, qs, bg, rfl, lk5, su5, so1, fo1, hs, hr1, fun G6 u6 s6 su6 => ?_⟩
  rw [← er] at su6
  refine ⟨_, rfl, _, rfl, _, rfl, _, rfl, A, ph, wv, u6, zv, aftR ts qs σ1 s, z, ts, qs, bg, rfl, lk5.same s6, su6, so2, sz5.keep (Tups.of s6), sq, fun G7 B7 s7 hB70 hB7 => ?_⟩
  have ll : (dn ++ [s]).length = dn.length + 1 := by simp
  refine ⟨u6, B7, aftR ts qs σ1 s, dn ++ [s], rfl, sm5.trans (Kp.of (s6.trans' s7)), p5.same (s6.trans' s7), su6.keep (Tups.of s7), so2, fo2, ?_, by omega, fun rest σ' f => ?_, s7 _ _ (s6 _ _ hL5), hB7, (fun e => by rw [e, s6 _ _ hL5] at hB70; cases hB70), (p5.same s6).ne hB70, dec⟩
  · rw [ll]
    exact bd2
  · rw [List.append_assoc]
    exact f1 _ _ (.cons so1 fo1 hs (by rw [nk.sr]; exact cs) f)
def cntS (ts : List Stn) (run : List Nat) : List Nat := (List.range ts.length).map fun s => run.count s
def spCountsL : Sp := fun vs H Q _ => ∃ (A : List Addr) (ph : V) (R : Addr) (ts : List Stn) (qs : List Pipe) (bg : Bg) (run : List Nat), vs = [ph, .ref R] ∧ PlanA A H ph ts qs bg ∧ ts.length ≤ 12 ∧ H R = some (.lst (nV run)) ∧ ∀ H' L, Same H H' → H L = none → H' L = some (.lst (nV (cntS ts run))) → Q (.ref L) H'
theorem cnt_int (run : List Nat) (s : Nat) : (run.map fun (n : Nat) => (n : Int)).count (s : Int) = run.count s := by
  induction run with
  | nil => rfl
  | cons a r ih =>
    rw [List.map_cons, List.count_cons, List.count_cons, ih]
    congr 1
    by_cases e : a = s
    · subst e; simp
    · have : ¬ ((a : Int) = (s : Int)) := by omega
      simp [e, this]
abbrev s_law_counts : Stmt := top 87
abbrev N_law_counts : List Str := ["_law_plan_here", "_law_row_here", "_law_at"]
theorem sc_law_counts : FnScope N_law_counts ["_law_plan_here", "_law_row_here"] (defScope s_law_counts) := ⟨rfl, rfl, rfl, by decide +kernel, rfl, by decide +kernel, by decide +kernel⟩
theorem ok_law_counts (F : Fun K "_law_counts" "_law_counts" s_law_counts f fd) (T : Txt K mg aS a1 a2) : FnOk P w K mg base CX0 1 f fd ["_law_plan_here", "_law_row_here"] spCountsL := by
  refine F.ok sc_law_counts (fun vs H Q E h => ?_) (fun cdv A0 outer s0 H vs Q E hr h => ?_)
  · obtain ⟨A, ph, R, ts, qs, bg, run, rfl, _⟩ := h
    rfl
  obtain ⟨A, ph, R, ts, qs, bg, run, rfl, pl, t12, hR, q⟩ := h
  obtain ⟨m, Lf, M, d, us, ws, rfl, hm, nF, nM, hF, pF, hM, pM, hb⟩ := pl
  have lus := paired_len2 pF
  refine ⟨_, (pss_one (ps_ret (pe_lc (own := [("_law_at", 2)]) rfl sc_law_counts.nd (pi_range1 rfl T.b_range (pa_cons (pe_callB (kLen K rfl) rfl T.b_len bt_len (pa_cons (pe_dget (hu1 hr) (pv 0) pe_str (fun _ _ => rfl)) pa_nil)) pa_nil)) (blkOk_by (N := N_law_counts) (sc := defScope s_law_counts) (by decide +kernel)) (fun _ _ _ _ _ => (pg_name (i := 2) sc_law_counts.nd rfl (Or.inl rfl))) (fun _ _ _ _ _ => pts_nil) (fun _ _ _ _ _ => (kBm K rfl PySem.F.plainAttrs_list PySem.F.slot_list_count PySem.F.type_list_count (kCnt K rfl) (pv 1) (pa_cons (pv 2) pa_nil)))))), ?_⟩
  refine ⟨_, rfl, m, .ref Lf, rfl, gS hm, _, _, rfl, .inl (SqL.of hF), ?_⟩
  rw [lus]
  refine ⟨ts.length, rfl, by omega, by omega, fun D hD => lc_it walk_range (fun i H' => Same H H' ∧ H' D = some (.lst (nV ((List.range i).map fun s => run.count s)))) ⟨same_new hD _, upd_same⟩ (fun _ _ _ _ => trivial) ?_ ?_⟩
  · rintro i x H1 H2 hi ⟨sm, hd⟩ ⟨rfl, hx⟩
    have hx : x = .int (i : Int) := by rw [hx]; exact congrArg V.int (Int.zero_add _)
    subst hx
    refine ⟨rfl, tyI ?_⟩
    have e : nV run = (run.map fun (n : Nat) => (n : Int)).map V.int := by unfold nV; rw [List.map_map]; rfl
    refine ⟨_, rfl, .inl ⟨rfl, _, SqL.of (sm _ _ hR)⟩, _, rfl, R, _, (i : Int), rfl, rfl, SqL.of (by rw [sm _ _ hR, e]), _, hd, ?_, same_at sm hD, ?_⟩
    · rw [nV_len, List.length_map, List.length_range]
      exact Nat.lt_of_lt_of_le (show i < 100 by omega) (by decide)
    · rw [upd_same, List.range_succ, List.map_append, cnt_int]
      unfold nV
      rw [List.map_append]
      rfl
  · rintro H1 ⟨sm, hd⟩
    exact q _ _ sm hD hd
end
end FY


set_option Elab.async false
set_option linter.all false
set_option maxRecDepth 100000
set_option maxHeartbeats 4000000
namespace FY
open PySem L2 FYR
/-! ## states as keys -/
def keyS (σ : Sta) : NestedKey := .tup [.tup (σ.sd.map fun (n : Nat) => .num (n : Nat)), .tup (σ.ct.map fun b => .text (tx b)), .text (tx σ.rs), .tup (σ.fl.map fun b => .text (tx b))]
theorem nv_nums {H : Hp} : ∀ ns : List Nat, NVs H (ns.map fun (n : Nat) => NestedKey.num (n : Nat)) (nV ns)
  | [] => .nil
  | n :: r => .cons (.num _) (nv_nums r)
theorem nv_txts {H : Hp} : ∀ bs : List (List Bool), NVs H (bs.map fun b => NestedKey.text (tx b)) (tV bs)
  | [] => .nil
  | b :: r => .cons (.text _) (nv_txts r)
theorem StaA.nv {H : Hp} {v : V} {σ : Sta} (h : StaA H v σ) : NV H (keyS σ) v ∧ ∃ b, v = .ref b := by
  obtain ⟨a, p, q, r, rfl, h1, h2, h3, h4⟩ := h
  exact ⟨.tup h1 (.cons (.tup h2 (nv_nums _)) (.cons (.tup h3 (nv_txts _)) (.cons (.text _) (.cons (.tup h4 (nv_txts _)) .nil)))), a, rfl⟩
theorem dep_nums (ns : List Nat) : NestedKey.depthAll (ns.map fun (n : Nat) => NestedKey.num (n : Nat)) = 0 := by
  induction ns with
  | nil => rfl
  | cons n r ih => rw [List.map_cons]; show max 0 (NestedKey.depthAll _) = 0; rw [ih]; rfl
theorem dep_txts (bs : List (List Bool)) : NestedKey.depthAll (bs.map fun b => NestedKey.text (tx b)) = 0 := by
  induction bs with
  | nil => rfl
  | cons n r ih => rw [List.map_cons]; show max 0 (NestedKey.depthAll _) = 0; rw [ih]; rfl
theorem keyS_dep (σ : Sta) : (keyS σ).depth ≤ 8 := by
  unfold keyS
  simp [NestedKey.depth, NestedKey.depthAll, dep_nums, dep_txts]
theorem map_inj {α β : Type} {f : α → β} (hf : ∀ a b, f a = f b → a = b) : ∀ {x y : List α}, x.map f = y.map f → x = y
  | [], [], _ => rfl
  | a :: x, b :: y, h => by
    rw [List.map_cons, List.map_cons] at h
    obtain ⟨h1, h2⟩ := List.cons.inj h
    rw [hf _ _ h1, map_inj hf h2]
  | [], _ :: _, h => by simp at h
  | _ :: _, [], h => by simp at h
theorem keyS_inj {σ σ' : Sta} (h : keyS σ = keyS σ') : σ = σ' := by
  obtain ⟨a, b, c, d⟩ := σ
  obtain ⟨a', b', c', d'⟩ := σ'
  unfold keyS at h
  simp only [NestedKey.tup.injEq, List.cons.injEq, NestedKey.text.injEq, and_true] at h
  obtain ⟨h1, h2, h3, h4⟩ := h
  have e1 : a = a' := map_inj (fun x y e => by have e' := NestedKey.num.inj e; omega) h1
  have e2 : b = b' := map_inj (fun x y e => tx_inj (by simpa using e)) h2
  have e4 : d = d' := map_inj (fun x y e => tx_inj (by simpa using e)) h4
  rw [e1, e2, e4, tx_inj h3]
theorem RunS.len {ts : List Stn} {qs : List Pipe} {z : Option (List Nat)} (k : NK ts qs) {σ σ' : Sta} {run : List Nat} (h : RunS ts qs z σ run σ') : run.length + Phi ts qs σ' ≤ Phi ts qs σ := by
  induction h with
  | nil _ _ => simp
  | @cons σ σ' s r a b c d _ ih =>
    obtain ⟨rw0, hr⟩ := can_row d
    rw [k.sr] at hr
    have dec := phi_dec k a c hr
    rw [← aftR_eq k.sr hr] at dec
    rw [List.length_cons]
    omega
theorem valN_any : ∀ (kvs : List (NestedKey × V)) (k : NestedKey), (valN kvs k).isSome = kvs.any fun p => decide (p.1 = k)
  | [], _ => rfl
  | p :: r, k => by
    have ih := valN_any r k
    unfold valN at ih ⊢
    rw [List.find?_cons, List.any_cons]
    by_cases z : p.1 = k
    · rw [decide_eq_true z]; rfl
    · rw [decide_eq_false z, Bool.false_or, ← ih]
theorem valN_put (kvs : List (NestedKey × V)) (k k' : NestedKey) (v : V) : (valN (putN kvs k v) k').isSome = ((valN kvs k').isSome || decide (k = k')) := by
  unfold putN
  by_cases h : (valN kvs k).isSome = true
  · rw [if_pos h, valN_any, valN_any, List.any_map]
    have e : ((fun p : NestedKey × V => decide (p.1 = k')) ∘ fun p => if p.1 = k then (p.1, v) else p) = fun p => decide (p.1 = k') := by
      funext p
      simp only [Function.comp]
      split <;> rfl
    rw [e]
    by_cases z : k = k'
    · subst z
      rw [valN_any] at h
      rw [h]; rfl
    · rw [decide_eq_false z, Bool.or_false]
  · rw [if_neg h, valN_any, valN_any, List.any_append]
    simp
/-! ## all states that runs come to -/
def spStates : Sp := fun vs H Q _ => ∃ (A : List Addr) (ph wv v zv : V) (ts : List Stn) (qs : List Pipe) (bg : Bg) (z : Option (List Nat)) (σ : Sta) (n : Nat), vs = [ph, wv, v, zv, .int (120 : Nat)] ∧ RK A H ph wv v zv ts qs bg z σ n ∧
  ∀ H' p L us met (wh : Bool), Same H H' → H' p = some (.tup [.ref L, .bl wh]) → H L = none → H' L = some (.lst us) → Paired (StaA H') us met → met.length ≤ 200 → (∀ σ' ∈ met, ∃ run, RunS ts qs z σ run σ') → met.Nodup → σ ∈ met → (wh = true → ∀ σ' ∈ met, ∀ s, s < ts.length → canS ts qs σ' s z = true → aftR ts qs σ' s ∈ met) → Q (.ref p) H'
/-- what the search holds -/
structure BS (w : World) (H0 : Hp) (L D : Addr) (ts : List Stn) (qs : List Pipe) (z : Option (List Nat)) (σ : Sta) (G : Hp) (us : List V) (met : List Sta) (kvs : List (NestedKey × V)) : Prop where
  sm : Same H0 G
  hL : G L = some (.lst us)
  pr : Paired (StaA G) us met
  nd : ND w G D kvs
  ky : ∀ σ', (valN kvs (keyS σ')).isSome = true ↔ σ' ∈ met
  rc : ∀ σ' ∈ met, ∃ run, RunS ts qs z σ run σ'
  un : met.Nodup
  s0 : σ ∈ met
  kl : kvs.length ≤ met.length
theorem stas_keep {G G' : Hp} (t : Tups G G') : ∀ {us : List V} {met : List Sta}, Paired (StaA G) us met → Paired (StaA G') us met
  | _, _, .nil => .nil
  | _, _, .cons a q => .cons (a.keep t) (stas_keep t q)
theorem BS.same {w : World} {H0 : Hp} {L D : Addr} {ts : List Stn} {qs : List Pipe} {z : Option (List Nat)} {σ : Sta} {G G' : Hp} {us : List V} {met : List Sta} {kvs : List (NestedKey × V)} (h : BS w H0 L D ts qs z σ G us met kvs) (k : Same G G') : BS w H0 L D ts qs z σ G' us met kvs :=
  ⟨h.sm.trans' k, k _ _ h.hL, stas_keep (Tups.of k) h.pr, h.nd.keep (fun o e => k _ _ e) (Tups.of k), h.ky, h.rc, h.un, h.s0, h.kl⟩
theorem BS.add {w : World} {H0 : Hp} {L D : Addr} {ts : List Stn} {qs : List Pipe} {z : Option (List Nat)} {σ σ2 : Sta} {G G' : Hp} {us : List V} {met : List Sta} {kvs : List (NestedKey × V)} {u : V} {run : List Nat} (h : BS w H0 L D ts qs z σ G us met kvs) (hL : H0 L = none) (hD : H0 D = none) (nLD : L ≠ D) (su : StaA G u σ2) (nw : σ2 ∉ met) (rn : RunS ts qs z σ run σ2)
    (nd' : ND w G' D (putN kvs (keyS σ2) (.bl true))) (off : ∀ a, a ≠ D → G' a = G a) : BS w H0 L D ts qs z σ (upd G' L (.lst (us ++ [u]))) (us ++ [u]) (met ++ [σ2]) (putN kvs (keyS σ2) (.bl true)) := by
  have gL : G' L = some (.lst us) := (off L nLD).trans h.hL
  have t1 : Tups G G' := fun a xs e => by
    rw [off a (fun q => ?_)]
    · exact e
    · obtain ⟨ys, ed, _⟩ := h.nd
      rw [q, ed] at e
      exact no_ne (Option.some.inj e)
  have t2 : Tups G' (upd G' L (.lst (us ++ [u]))) := (NL.at gL).tups
  have t3 : Tups G (upd G' L (.lst (us ++ [u]))) := fun a xs e => t2 _ _ (t1 _ _ e)
  refine ⟨fun b o e => ?_, upd_same, ?_, nd'.keep (fun o e => (upd_ne (Ne.symm nLD)).trans e) t2, fun σ' => ?_, fun σ' m => ?_, ?_, List.mem_append_left _ h.s0, ?_⟩
  · rw [upd_ne (ne_of_none e hL), off b (ne_of_none e hD)]
    exact h.sm b o e
  · exact paired_app (stas_keep t3 h.pr) (.cons (su.keep t3) .nil)
  · rw [valN_put, Bool.or_eq_true, h.ky, List.mem_append, List.mem_singleton, decide_eq_true_eq]
    exact or_congr Iff.rfl ⟨fun e => (keyS_inj e).symm, fun e => by rw [e]⟩
  · rcases List.mem_append.mp m with m | m
    · exact h.rc σ' m
    · rw [List.mem_singleton.mp m]; exact ⟨run, rn⟩
  · rw [List.nodup_append]
    exact ⟨h.un, by simp, fun a ha b hb => by rw [List.mem_singleton.mp hb]; intro e; exact nw (e ▸ ha)⟩
  · have := putN_len kvs (keyS σ2) (.bl true)
    have := h.kl
    rw [List.length_append, List.length_singleton]
    omega
section
variable {P : Program} {w : World} {K : PySem.W.Frag} {mg : Str → Option Value} {base : Heap} {aS a1 a2 aL aT : Addr} {f : Addr} {fd : FuncData} {C CD CY : Addr} {mc : Value}
abbrev s_law_states : Stmt := top 85
abbrev N_law_states : List Str := ["_law_plan_here", "_law_wires_here", "_law_here", "_law_room", "_law_most", "_law_met", "_law_at", "_law_known", "_law_unit", "_law_later"]
theorem sc_law_states : FnScope N_law_states ["_law_plan_here", "_law_wires_here", "_law_here", "_law_room", "_law_most"] (defScope s_law_states) := ⟨rfl, rfl, rfl, by decide +kernel, rfl, by decide +kernel, by decide +kernel⟩
theorem ok_law_states (F : Fun K "_law_states" "_law_states" s_law_states f fd) (T : Txt K mg aS a1 a2) (c__law_able : C8.Cal P w K mg base 3 "_law_able" spAbleL []) (c__law_behind : C8.Cal P w K mg base 2 "_law_behind" spBehindL []) : FnOk P w K mg base CX0 4 f fd ["_law_plan_here", "_law_wires_here", "_law_here", "_law_room", "_law_most"] spStates := by
  refine F.ok sc_law_states (fun vs H Q E h => ?_) (fun cdv A0 outer s0 H vs Q E hr h => ?_)
  · obtain ⟨A, ph, wv, v, zv, ts, qs, bg, z, σ, n, rfl, _⟩ := h
    rfl
  obtain ⟨A, ph, wv, v, zv, ts, qs, bg, z, σ, n, rfl, rk, q⟩ := h
  obtain ⟨lk, sv, so, fo, bd, sz0, sq, hn⟩ := rk
  have nk := lk.nk
  have t12 := lk.yo.m2
  refine ⟨_, (pss_cons (ps_par (i := 5) (j := 6) rfl sc_law_states.nd rfl rfl (by decide) rfl rfl (pa_cons (pe_lst (pa_cons (pv 2) pa_nil)) (pa_cons pe_int pa_nil)) rfl)
        (pss_cons (ps_set (i := 7) sc_law_states.nd rfl (Or.inl rfl) (pe_disp1N (hu8 hr) (pv 2) pe_bl))
        (pss_cons (ps_while PassesOwn.never (PW.pt (pw_and (pt_cmpR op_lt (pv 6) (pe_callB (kLen K rfl) rfl T.b_len bt_len (pa_cons (pv 5) pa_nil)) (nomark _)) (pw_and1 (pt_cmpR op_lt (pe_callB (kLen K rfl) rfl T.b_len bt_len (pa_cons (pv 5) pa_nil)) (pv 4) (nomark _)))))
        (pss_cons (ps_for PassesOwn.never rfl (kList K rfl (C8.pe_c c__law_able hr (by decide) rfl (pa_cons (pv 0) (pa_cons (pv 1) (pa_cons (pe_ix (kIxL K rfl) (pv 5) (pv 6) (fun _ _ => rfl)) (pa_cons (pv 3) pa_nil)))))) (pg_name (i := 8) sc_law_states.nd rfl (Or.inl rfl))
        (pss_cons (ps_set (i := 9) sc_law_states.nd rfl (Or.inl rfl) (C8.pe_c c__law_behind hr (by decide) rfl (pa_cons (pv 0) (pa_cons (pv 1) (pa_cons (pe_ix (kIxL K rfl) (pv 5) (pv 6) (fun _ _ => rfl)) (pa_cons (pv 8) pa_nil))))))
        (pss_one (ps_if (pt_cmp (pc_nnotin (hu9 hr) (pv 9) (pv 7)))
        (pss_cons (ps_nput (hu9 hr) (pv 7) (pv 9) pe_bl rfl)
        (pss_one (ps_expr (kBm K rfl PySem.F.plainAttrs_list PySem.F.slot_list_append PySem.F.type_list_append mt_append (pv 5) (pa_cons (pv 9) pa_nil)))))
        pss_nil))))
        (pss_one (ps_aug (i := 6) sc_law_states.nd rfl (Or.inl rfl) pe_int ip_add))))
        (pss_one (ps_ret (pe_tup (pa_cons (pv 5) (pa_cons (pe_cmpR op_eq (pv 6) (pe_callB (kLen K rfl) rfl T.b_len bt_len (pa_cons (pv 5) pa_nil)) (nomark _)) pa_nil)))))))), ?_⟩
  refine ⟨_, rfl, sz rfl, fun L hL => ⟨_, _, rfl, ?_⟩⟩
  have k1 := same_new hL (.lst [v])
  have hL1 : (upd H L (.lst [v])) L = some (.lst [v]) := upd_same
  have sv1 := sv.keep (Tups.of k1)
  generalize eG : upd H L (.lst [v]) = G1 at *
  intro D hD
  obtain ⟨nvk, b0, ev⟩ := sv1.nv
  rw [ev] at nvk
  have kD := same_new hD (NO w D [])
  refine ⟨_, rfl, upd_same, b0, keyS σ, ev, NV.keep (Tups.of kD) _ nvk, keyS_dep σ, fun H3 nd3 off3 => ?_⟩
  have nLD : L ≠ D := ne_of_none hL1 hD
  have hDH : H D = none := none_of k1 hD
  have g3 : ∀ b o, b ≠ D → G1 b = some o → H3 b = some o := fun b o ne e => by rw [off3 b ne, upd_ne ne]; exact e
  have bs0 : BS w H L D ts qs z σ H3 [v] [σ] [(keyS σ, .bl true)] := by
    have t3 : Tups G1 H3 := fun a xs e => g3 a _ (ne_of_none e hD) e
    refine ⟨fun b o e => g3 b o (ne_of_none e hDH) (k1 b o e), g3 L _ nLD hL1, .cons (sv1.keep t3) .nil, nd3, fun σ' => ?_, fun σ' m => ?_, by simp, List.mem_singleton.mpr rfl, Nat.le_refl _⟩
    · rw [valN_any, List.any_cons, List.any_nil, Bool.or_false, decide_eq_true_eq, List.mem_singleton]
      exact ⟨fun e => (keyS_inj e).symm, fun e => by rw [e]⟩
    · rw [List.mem_singleton.mp m]; exact ⟨[], .nil so fo⟩
  clear nvk ev kD nd3 off3 g3 sv1 hD hL1 k1 eG
  refine gN_i ?_
  dsimp only
  refine seq_splitB (fun τ H' => ∃ (us : List V) (met : List Sta) (kvs : List (NestedKey × V)) (at_ : Nat) (u8 u9 : Option V), τ = [some ph, some wv, some v, some zv, some (.int (120 : Nat)), some (.ref L), some (.int (at_ : Nat)), some (.ref D), u8, u9] ∧ BS w H L D ts qs z σ H' us met kvs ∧ met.length ≤ 132 ∧ at_ ≤ met.length ∧ (∀ j σ', j < at_ → met[j]? = some σ' → ∀ s, s < ts.length → canS ts qs σ' s z = true → aftR ts qs σ' s ∈ met)) (fun D' hrt nxt => ?_) ?_
  · refine ⟨fun m τ H' => ∃ (us : List V) (met : List Sta) (kvs : List (NestedKey × V)) (at_ : Nat) (u8 u9 : Option V), τ = [some ph, some wv, some v, some zv, some (.int (120 : Nat)), some (.ref L), some (.int (at_ : Nat)), some (.ref D), u8, u9] ∧ BS w H L D ts qs z σ H' us met kvs ∧ met.length ≤ 132 ∧ at_ ≤ met.length ∧ (∀ j σ', j < at_ → met[j]? = some σ' → ∀ s, s < ts.length → canS ts qs σ' s z = true → aftR ts qs σ' s ∈ met) ∧ 132 - at_ = m, ⟨_, [v], [σ], _, 0, _, _, rfl, bs0, by simp, by simp, fun j σ' hj => absurd hj (Nat.not_lt_zero _), rfl⟩, ?_⟩
    rintro m τ G ⟨us, met, kvs, at_, u8, u9, rfl, bs, ml, al, cl, rfl⟩
    have lu := paired_len2 bs.pr
    refine ⟨_, rfl, _, rfl, _, _, rfl, .inl (SqL.of bs.hL), _, _, rfl, rfl, _, rfl, ?_⟩
    rw [lu]
    by_cases h1 : at_ < met.length
    · refine iteTd (by simp; omega) ?_
      refine ⟨_, rfl, _, _, rfl, .inl (SqL.of bs.hL), _, rfl, _, _, rfl, rfl, _, rfl, ?_⟩
      rw [lu]
      by_cases h2 : met.length < 120
      · refine iteTd (by simp; omega) ⟨fun τ' H' => ∃ (us : List V) (met : List Sta) (kvs : List (NestedKey × V)) (u8 u9 : Option V), τ' = [some ph, some wv, some v, some zv, some (.int (120 : Nat)), some (.ref L), some (.int ((at_ + 1 : Nat) : Int)), some (.ref D), u8, u9] ∧ BS w H L D ts qs z σ H' us met kvs ∧ met.length ≤ 132 ∧ at_ + 1 ≤ met.length ∧ (∀ j σ', j < at_ + 1 → met[j]? = some σ' → ∀ s, s < ts.length → canS ts qs σ' s z = true → aftR ts qs σ' s ∈ met), fun τ' H' ⟨us, met, kvs, u8, u9, g1, g2, g3, g4, g5⟩ => ⟨132 - (at_ + 1), by omega, us, met, kvs, at_ + 1, u8, u9, g1, g2, g3, g4, g5, rfl⟩, ?_⟩
        have em : met[at_]? = some met[at_] := List.getElem?_eq_getElem h1
        obtain ⟨σa, eσ⟩ : ∃ σa, met[at_] = σa := ⟨_, rfl⟩
        rw [eσ] at em
        obtain ⟨xa, hxa, sa⟩ := paired_at bs.pr em
        obtain ⟨run, rn⟩ := bs.rc σa (List.mem_of_getElem? em)
        obtain ⟨soa, foa⟩ := rn.okEnd
        have rl := rn.len nk
        obtain ⟨bda, _⟩ := rn.bd nk bd (by omega)
        refine seq_i ?_
        refine ⟨_, rfl, _, rfl, _, rfl, _, rfl, L, _, _, xa, rfl, rfl, SqL.of bs.hL, L2.atI_nat hxa, _, rfl, A, ph, wv, xa, zv, σa, z, ts, qs, bg, rfl, lk.same bs.sm, sa, soa, sz0.keep (Tups.of bs.sm), sq, fun G2 B s2 hB0 hB => ?_⟩
        have bs2 := bs.same s2
        have nBL : B ≠ L := fun e => by rw [e, bs.hL] at hB0; cases hB0
        have nBD : B ≠ D := fun e => by obtain ⟨_, ed, _⟩ := bs.nd; rw [e, ed] at hB0; cases hB0
        have la : (ableS ts qs σa z).length ≤ 12 := by
          have : (ableS ts qs σa z).length ≤ (List.range ts.length).length := List.length_filter_le _ _
          rw [List.length_range] at this; omega
        generalize eab : ableS ts qs σa z = ab at *
        refine ⟨B, rfl, ⟨_, SqL.of hB⟩, for_it walk_list (fun i τ' H' => ∃ (us2 : List V) (more : List Sta) (kvs2 : List (NestedKey × V)) (w8 w9 : Option V), τ' = [some ph, some wv, some v, some zv, some (.int (120 : Nat)), some (.ref L), some (.int (at_ : Nat)), some (.ref D), w8, w9] ∧ BS w H L D ts qs z σ H' us2 (met ++ more) kvs2 ∧ more.length ≤ i ∧ H' B = some (.lst (nV ab)) ∧ ∀ k s, k < i → ab[k]? = some s → aftR ts qs σa s ∈ met ++ more) ⟨us, [], kvs, _, _, rfl, by rw [List.append_nil]; exact bs2, Nat.le_refl _, hB, fun k s hk => absurd hk (Nat.not_lt_zero _)⟩ (fun i τ' H' _ z => by obtain ⟨_, _, _, _, _, _, _, _, z, _⟩ := z; exact SqL.of z) ?_ ?_⟩
        · rintro i xx τ' H7 H8 hi ⟨us2, more, kvs2, w8, w9, rfl, bs3, lm, hB3, dn⟩ ⟨rfl, hx⟩
          obtain ⟨s, hs, rfl⟩ := List.getElem?_map_some hx
          rw [nV_len] at hi
          have hsm : s ∈ ableS ts qs σa z := by rw [eab]; exact List.mem_of_getElem? hs
          obtain ⟨lss, cs⟩ := able_mem.mp hsm
          have em2 : (met ++ more)[at_]? = some σa := by rw [List.getElem?_append_left h1]; exact em
          obtain ⟨x2, hx2, sa2⟩ := paired_at bs3.pr em2
          have lu2 := paired_len2 bs3.pr
          obtain ⟨r, hr1, er, so2, fo2, bd2, dec⟩ := beat_ok nk soa lss cs bda (by omega)
          refine seq_i ?_
          refine ⟨_, rfl, _, rfl, _, rfl, _, rfl, L, _, _, x2, rfl, rfl, SqL.of bs3.hL, L2.atI_nat hx2, _, rfl, A, ph, wv, x2, σa, s, r, ts, qs, bg, rfl, lk.same bs3.sm, sa2, soa, foa, lss, hr1, fun G5 u s5 su => ?_⟩
          rw [← er] at su
          have bs5 := bs3.same s5
          have hB5 := s5 _ _ hB3
          obtain ⟨nvu, bu, eu⟩ := su.nv
          rw [eu] at nvu
          refine ⟨_, rfl, _, rfl, D, bu, kvs2, keyS (aftR ts qs σa s), rfl, eu, bs5.nd, nvu, keyS_dep _, _, rfl, ?_⟩
          rw [if_pos rfl]
          by_cases inm : aftR ts qs σa s ∈ met ++ more
          · refine iteFd (by rw [(bs5.ky _).mpr inm]; rfl) ?_
            refine ⟨us2, more, kvs2, _, _, rfl, bs5, by omega, hB5, fun k s' hk hks => ?_⟩
            by_cases e : k = i
            · subst e; rw [hs] at hks; cases hks; exact inm
            · exact dn k s' (by omega) hks
          · have nis : (valN kvs2 (keyS (aftR ts qs σa s))).isSome = false := by
              cases q : (valN kvs2 (keyS (aftR ts qs σa s))).isSome with
              | false => rfl
              | true => exact absurd ((bs5.ky _).mp q) inm
            refine iteTd (by rw [nis]; rfl) ?_
            have kl2 := bs5.kl
            rw [List.length_append] at kl2 lu2
            have l16 : (100000 : Nat) < sizeLine := by decide
            refine ⟨_, rfl, _, rfl, D, bu, kvs2, keyS (aftR ts qs σa s), rfl, eu, bs5.nd, nvu, keyS_dep _, by omega, fun H6 nd6 off6 => ?_⟩
            have hL6 : H6 L = some (.lst us2) := (off6 L nLD).trans bs5.hL
            refine ⟨_, rfl, .inl ⟨rfl, _, SqL.of hL6⟩, _, rfl, L, _, _, rfl, rfl, hL6, by omega, ?_⟩
            have rn2 : RunS ts qs z σ (run ++ [s]) (aftR ts qs σa s) := rn.app (.cons soa foa lss (by rw [nk.sr]; exact cs) (.nil so2 fo2))
            refine ⟨us2 ++ [u], more ++ [aftR ts qs σa s], _, _, _, rfl, by rw [← List.append_assoc]; exact bs5.add hL hDH nLD su inm rn2 nd6 off6, by rw [List.length_append, List.length_singleton]; omega, ?_, fun k s' hk hks => ?_⟩
            · rw [upd_ne nBL, off6 B nBD]
              exact hB5
            · rw [← List.append_assoc]
              by_cases e : k = i
              · subst e; rw [hs] at hks; cases hks; exact List.mem_append_right _ (List.mem_singleton.mpr rfl)
              · exact List.mem_append_left _ (dn k s' (by omega) hks)
        · rintro τ' H7 ⟨us2, more, kvs2, w8, w9, rfl, bs3, lm, hB3, dn⟩
          rw [nV_len] at lm dn
          dsimp only
          refine ⟨_, rfl, _, _, rfl, rfl, us2, met ++ more, kvs2, w8, w9, rfl, bs3, by rw [List.length_append]; omega, by rw [List.length_append]; omega, fun j σ' hj hm s hs cs => ?_⟩
          by_cases e : j = at_
          · subst e
            rw [List.getElem?_append_left h1, em] at hm
            cases hm
            have hsm : s ∈ ab := by rw [← eab]; exact able_mem.mpr ⟨hs, cs⟩
            obtain ⟨k, hk⟩ := List.mem_iff_getElem?.mp hsm
            exact dn k s (List.getElem?_eq_some_iff.mp hk).1 hk
          · rw [List.getElem?_append_left (by omega)] at hm
            exact List.mem_append_left _ (cl j σ' (by omega) hm s hs cs)
      · refine iteFd (by simp; omega) ?_
        exact nxt _ _ ⟨us, met, kvs, at_, u8, u9, rfl, bs, ml, al, cl⟩
    · refine iteFd (by simp; omega) ?_
      exact nxt _ _ ⟨us, met, kvs, at_, u8, u9, rfl, bs, ml, al, cl⟩
  · rintro τ G ⟨us, met, kvs, at_, u8, u9, rfl, bs, ml, al, cl⟩
    refine ⟨_, rfl, _, rfl, _, rfl, _, _, rfl, .inl (SqL.of bs.hL), ?_⟩
    have lu := paired_len2 bs.pr
    refine ⟨rfl, sz rfl, fun p hp => ?_⟩
    have kp0 := same_new hp (.tup [.ref L, .bl (decide (V.int (at_ : Nat) = V.int (us.length : Nat)))])
    refine q _ _ L us met _ (bs.sm.trans' kp0) upd_same hL (kp0 _ _ bs.hL) (stas_keep (Tups.of kp0) bs.pr) (by omega) bs.rc bs.un bs.s0 fun hw σ' m s hs cs => ?_
    have e : V.int (at_ : Nat) = V.int (us.length : Nat) := of_decide_eq_true hw
    have e2 : (at_ : Int) = (us.length : Int) := V.int.inj e
    obtain ⟨j, hj⟩ := List.mem_iff_getElem?.mp m
    have hjl := (List.getElem?_eq_some_iff.mp hj).1
    exact cl j σ' (by omega) hj s hs cs
end
end FY


set_option Elab.async false
set_option linter.all false
set_option maxRecDepth 100000
set_option maxHeartbeats 4000000
namespace FY
open PySem L2 FYR
def spFaultN (CY C : Addr) : Sp := fun vs H Q _ => ∃ (y L : Addr) (zv : V) (x : List Bool) (run : List Nat) (sN : Nat) (σ' : Sta) (z : Option (List Nat)) (ts : List Stn) (ps : List Pipe) (bg : Bg), vs = [.ref y, .str (tx x), .ref L, zv] ∧ YK CY C H y ts ps ∧ YdBg CY H y bg ∧ H L = some (.lst (nV (run ++ [sN]))) ∧ SK H zv ps z ∧ RunS ts ps z (begS bg (exitsOf ts ps) x) run σ' ∧ sN < ts.length ∧ canS ts (srt ps) σ' sN z = false ∧ ∀ H' p i, Same H H' → H' p = some (.tup [.non, .int (i : Nat)]) → Q (.ref p) H'
def spIsRunN (CY C : Addr) : Sp := fun vs H Q _ => ∃ (y L : Addr) (zv : V) (x : List Bool) (run : List Nat) (sN : Nat) (σ' : Sta) (z : Option (List Nat)) (ts : List Stn) (ps : List Pipe) (bg : Bg), vs = [.ref y, .str (tx x), .ref L, zv] ∧ YK CY C H y ts ps ∧ YdBg CY H y bg ∧ x.length ≤ 1000 ∧ H L = some (.lst (nV (run ++ [sN]))) ∧ SK H zv ps z ∧ RunS ts ps z (begS bg (exitsOf ts ps) x) run σ' ∧ sN < ts.length ∧ canS ts (srt ps) σ' sN z = false ∧ ∀ H', Same H H' → Q (.bl false) H'
def YdEq (CY C : Addr) (a b : Addr) (H : Hp) : Prop := ∃ ts ps bg, YdA CY C H a ts ps ∧ YdA CY C H b ts ps ∧ YdBg CY H a bg ∧ YdBg CY H b bg ∧ YdOk ts ps
theorem YdEq.mon {CY C a b : Addr} {H H' : Hp} (e : Ext H H') (h : YdEq CY C a b H) : YdEq CY C a b H' := by
  obtain ⟨ts, ps, bg, h1, h2, h4, h5, h3⟩ := h
  exact ⟨ts, ps, bg, h1.nl (fun b o _ _ q => e b o q), h2.nl (fun b o _ _ q => e b o q), h4.nl (fun b o _ _ q => e b o q), h5.nl (fun b o _ _ q => e b o q), h3⟩
theorem prs_st {C : Addr} {H : Hp} : ∀ {us vs : List V} {ts : List Stn}, Paired (StnA C H) us ts → Paired (StnA C H) vs ts → (∀ t ∈ ts, t.ok) → Prs (DIns C (StEq C)) us vs H
  | _, _, _, .nil, .nil, _ => Prs.nil
  | _, _, _, .cons r q, .cons r2 q2, h => by
    refine Prs.cons ?_ (prs_st q q2 fun t ht => h t (List.mem_cons_of_mem _ ht))
    obtain ⟨a, dx, p, ps, e, h1, h2, pr⟩ := id r
    obtain ⟨b, dy, p', ps', e', h1', h2', pr'⟩ := id r2
    subst e
    subst e'
    exact ⟨a, b, dx, dy, _, _, rfl, rfl, h1, h1', _, r, r2, h _ (List.mem_cons_self ..)⟩
theorem pps_nice {ps : List Pipe} (h : ∀ p ∈ ps, SmP p) (hm : ps.length ≤ 100) : Nice 2 3300 (.tuple (ps.map ppD)) := by
  refine nice_tup (n := 1) (w := 32) (m := 100) (fun d hd => ?_) (by rw [List.length_map]; exact hm)
  obtain ⟨p, hp, rfl⟩ := List.mem_map.mp hd
  exact pp_nice (h p hp)
def bgD (bg : Bg) : PyData := .tuple [.tuple (iDs bg.1), .tuple (tDs bg.2)]
theorem dptxts {K : PySem.W.Frag} {H : Hp} : ∀ bs : List (List Bool), DpAll K H (tV bs) (tDs bs)
  | [] => .nil
  | n :: r => .cons (.str _) (dptxts r)
theorem BgG.dp {K : PySem.W.Frag} {H : Hp} {d : Addr} {bg : Bg} (h : BgG H d bg) : Dp K H (.ref d) (bgD bg) := by
  obtain ⟨d1, d2, h0, h1, h2⟩ := h
  exact .tup (SqT.of h0) (.cons (.tup (SqT.of h1) (dpnums _)) (.cons (.tup (SqT.of h2) (dptxts _)) .nil))
theorem bg_lay (bg : Bg) : (bgD bg).canLay0 = true := by
  unfold bgD
  simp [PyData.canLay0, PyData.canLayAll0, (lay_ints _).1, (lay_txts _).1]
theorem bg_shp (bg : Bg) : SeqAt.shaped (bgD bg) = true := by
  have : (bgD bg).depth ≤ 2 := by
    unfold bgD
    simp [PyData.depth, PyData.depthAll, (lay_ints _).2, (lay_txts _).2]
  unfold SeqAt.shaped
  simp [bg_lay bg]
  omega
theorem bg_eqv (bg : Bg) : PyData.eqv (bgD bg) (bgD bg) = true := eqv_dec (bg_lay bg)
section
variable {P : Program} {w : World} {K : PySem.W.Frag} {mg : Str → Option Value} {base : Heap} {aS a1 a2 aL aT : Addr} {f : Addr} {fd : FuncData} {C CD CY : Addr} {mc : Value}
theorem ok_fault_ofN (F : Fun K "fault_of" "fault_of" s_fault_of f fd) (T : Txt K mg aS a1 a2) (lY : LenC P w K mg base 1 CY (spYL CY C)) (c_is_list : C8.Cal P w K mg base 1 "is_list" spIsList []) (c_begun : C8.Cal P w K mg base 1 "begun" (spBegun CY C) []) (c_is_below : C8.Cal P w K mg base 3 "is_below" spIsBelow []) (c_is_possible : C8.Cal P w K mg base 3 "is_possible" (spPoss CY C) []) (c_after_beat : C8.Cal P w K mg base 3 "after_beat" (spAfter CY C) []) : FnOk P w K mg base CX0 4 f fd ["yard", "stream", "value", "sizes"] (spFaultN CY C) := by
  refine F.ok sc_fault_of (fun vs H Q E h => ?_) (fun cdv A outer s0 H vs Q E hr h => ?_)
  · obtain ⟨y, L, zv, x, run, sN, σ', z, ts, ps, bg, rfl, _⟩ := h
    rfl
  obtain ⟨y, L, zv, x, run, sN, σ', z, ts, ps, bg, rfl, yk, yb, hL, sk, rs, lsN, csN, q⟩ := h
  have m2 := yk.yo.m2
  refine ⟨_, (pss_cons (ps_if (pt_not (pt_val (C8.pe_c c_is_list hr (by decide) rfl (pa_cons (pv 2) pa_nil))))
        (pss_one (ps_ret (pe_tup (pa_cons pe_non (pa_cons (pe_un un_neg pe_int) pa_nil)))))
        pss_nil)
        (pss_cons (ps_set (i := 4) sc_fault_of.nd rfl (Or.inl rfl) (C8.pe_c c_begun hr (by decide) rfl (pa_cons (pv 0) (pa_cons (pv 1) pa_nil))))
        (pss_cons (ps_for PassesOwn.never rfl (kEnum K rfl rfl T.b_enumerate (pa_cons (pv 2) pa_nil)) (kTupG (n := 2) K rfl rfl (pgs_cons (pg_name (i := 5) sc_fault_of.nd rfl (Or.inl rfl)) (pgs_cons (pg_name (i := 6) sc_fault_of.nd rfl (Or.inl rfl)) pgs_nil)))
        (pss_cons (ps_if (PW.pt (pw_or (pt_not (pt_val (C8.pe_c c_is_below hr (by decide) rfl (pa_cons (pv 6) (pa_cons (pe_callB (kLenO lY hr (by decide)) rfl T.b_len bt_len (pa_cons (pv 0) pa_nil)) pa_nil))))) (pw_or1 (pt_not (pt_val (C8.pe_c c_is_possible hr (by decide) rfl (pa_cons (pv 0) (pa_cons (pv 4) (pa_cons (pv 6) (pa_cons (pv 3) pa_nil))))))))))
        (pss_one (ps_ret (pe_tup (pa_cons pe_non (pa_cons (pv 5) pa_nil)))))
        pss_nil)
        (pss_one (ps_set (i := 4) sc_fault_of.nd rfl (Or.inl rfl) (C8.pe_c c_after_beat hr (by decide) rfl (pa_cons (pv 0) (pa_cons (pv 4) (pa_cons (pv 6) pa_nil))))))))
        (pss_one (ps_ret (pe_tup (pa_cons (pv 4) (pa_cons pe_non pa_nil)))))))), ?_⟩
  refine ⟨_, rfl, L, _, rfl, hL, fun H1 s1 => ⟨_, rfl, iteF ⟨_, rfl, _, rfl, y, x, ts, ps, bg, rfl, yk.ya.nl (NL.of s1), yb.nl (NL.of s1), yk.yo.ex, fun H2 v s2 sv => ?_⟩⟩⟩
  have s12 := s1.trans' s2
  refine ⟨_, rfl, _, _, rfl, SqL.of (s12 _ _ hL), for_it walk_enum (fun i τ H' => ∃ (a b : Option V) (u : V) (σi : Sta), τ = [some (.ref y), some (.str (tx x)), some (.ref L), some zv, some u, a, b] ∧ Same H H' ∧ StaA H' u σi ∧ i ≤ run.length ∧ RunS ts ps z σi (run.drop i) σ') ⟨_, _, v, _, rfl, s12, sv, Nat.zero_le _, rs⟩ (fun i τ H' _ z => by obtain ⟨_, _, _, _, _, sm, _⟩ := z; exact SqL.of (sm _ _ hL)) ?_ ?_⟩
  · rintro i xx τ G1 G2 hi ⟨a, b, u, σi, rfl, sm, su, il, ru⟩ ⟨T0, i1, i2, rfl, hT0, rfl, hi1, hi2'⟩
    obtain rfl : V.int (i : Nat) = i1 := Option.some.inj hi1
    obtain ⟨s, hs, rfl⟩ := List.getElem?_map_some hi2'
    have k0 := same_new hT0 (.tup [.int (i : Nat), .int (s : Nat)])
    have s0' := sm.trans' k0
    have ya' := yk.ya.nl (NL.of s0')
    obtain ⟨dx, b1, b2, b3, b4, b5, b6, kv, kw, hy, _⟩ := ya'.dc
    have okk : s < ts.length ∧ StOk ts ps σi ∧ FlOk σi := by
      by_cases e : i < run.length
      · rw [List.getElem?_append_left e] at hs
        rw [List.drop_eq_getElem_cons e] at ru
        cases ru with
        | cons so fo ls cs ru =>
          rw [(List.getElem?_eq_some_iff.mp hs).2] at ls
          exact ⟨ls, so, fo⟩
      · obtain rfl : i = run.length := by omega
        rw [List.getElem?_append_right (Nat.le_refl _), Nat.sub_self] at hs
        cases Option.some.inj hs
        rw [List.drop_length] at ru
        cases ru with
        | nil so fo => exact ⟨lsN, so, fo⟩
    obtain ⟨ls, so, fo⟩ := okk
    have et : ts[s]? = some ts[s] := List.getElem?_eq_getElem ls
    refine ⟨_, _, rfl, SqT.of upd_same, rfl, _, _, rfl, _, _, rfl, rfl, _, rfl, _, rfl, y, dx, _, rfl, hy, y, ts, ps, rfl, ya', ts.length, rfl, by omega, _, _, rfl, by omega, _, rfl, iteFd (by simp; omega) ?_⟩
    refine ⟨_, rfl, _, rfl, _, rfl, _, rfl, y, u, zv, σi, s, ts[s], z, ts, ps, rfl, ya', su.keep (Tups.of k0), so, et, yk.yo.ok _ (List.getElem_mem ls), yk.al, sk.a.keep (Tups.of s0'), sk.o, fun H3 s3 => ⟨_, rfl, ?_⟩⟩
    have s13 := s0'.trans' s3
    by_cases e : i < run.length
    · rw [List.getElem?_append_left e] at hs
      have es := (List.getElem?_eq_some_iff.mp hs).2
      rw [List.drop_eq_getElem_cons e, es] at ru
      cases ru with
      | cons so fo ls cs ru =>
      obtain ⟨r, er⟩ := can_row cs
      rw [cs]
      refine iteF ⟨_, rfl, _, rfl, _, rfl, y, u, σi, s, ts[s], r, ts, ps, rfl, yk.ya.nl (NL.of s13), su.keep (Tups.of (k0.trans' s3)), so, fo, yk.yo, yk.al, et, er, fun H4 u' s4 su' => ⟨_, _, u', _, rfl, s13.trans' s4, su', by omega, ?_⟩⟩
      unfold aftR at ru
      rw [er] at ru
      exact ru
    · obtain rfl : i = run.length := by omega
      rw [List.getElem?_append_right (Nat.le_refl _), Nat.sub_self] at hs
      cases Option.some.inj hs
      rw [List.drop_length] at ru
      cases ru with
      | nil _ _ =>
      rw [csN]
      exact iteT ⟨_, rfl, sz rfl, fun p hp => q _ p _ (s13.trans' (same_new hp _)) upd_same⟩
  rintro τ H3 ⟨a, b, u, σi, rfl, sm, su, il, ru⟩
  rw [nV_len, List.length_append, List.length_singleton] at il
  omega
theorem ok_is_runN {dV : List V} (F : FunD K "is_run" "is_run" (defArgs s_is_run) (defBody s_is_run) (defScope s_is_run) dV [] f fd) (c_want_stream : C8.Cal P w K mg base 3 "want_stream" spWantStream []) (c_want_sizes : C8.Cal P w K mg base 3 "want_sizes" (spWSz CY C) []) (c_fault_of : C8.Cal P w K mg base 4 "fault_of" (spFaultN CY C) []) : FnOk P w K mg base CX0 6 f fd ["yard", "stream", "value", "sizes"] (spIsRunN CY C) := by
  refine okD0 F sc_is_run (fun vs H Q E h => ?_) (fun cdv A outer s0 H vs Q E hr h => ?_)
  · obtain ⟨y, L, zv, x, run, sN, σ', z, ts, ps, bg, rfl, _⟩ := h
    rfl
  obtain ⟨y, L, zv, x, run, sN, σ', z, ts, ps, bg, rfl, yk, yb, hx, hL, sk, rs, lsN, csN, q⟩ := h
  refine ⟨_, (pss_cons (ps_expr (C8.pe_c c_want_stream hr (by decide) rfl (pa_cons (pv 1) pa_nil)))
        (pss_cons (ps_expr (C8.pe_c c_want_sizes hr (by decide) rfl (pa_cons (pv 0) (pa_cons (pv 3) pa_nil))))
        (pss_one (ps_ret (pe_cmp (pc_notN (pe_ix (kIxT K rfl) (C8.pe_c c_fault_of hr (by decide) rfl (pa_cons (pv 0) (pa_cons (pv 1) (pa_cons (pv 2) (pa_cons (pv 3) pa_nil))))) pe_int (fun _ _ => rfl)))))))), ?_⟩
  refine ⟨_, rfl, x, rfl, hx, fun H1 s1 => ⟨_, rfl, _, rfl, y, zv, z, ts, ps, rfl, yk.ya.nl (NL.of s1), yk.yo, sk.a.keep (Tups.of s1), sk.o, sk.i, fun H2 s2 => ?_⟩⟩
  have s12 := s1.trans' s2
  refine ⟨_, rfl, _, rfl, _, rfl, _, rfl, y, L, zv, x, run, sN, σ', z, ts, ps, bg, rfl, yk.keep (NL.of s12), yb.nl (NL.of s12), s12 _ _ hL, sk.keep (Tups.of s12), rs, lsN, csN, fun H3 p i s3 hp => ?_⟩
  exact ⟨_, _, _, _, rfl, rfl, SqT.of hp, rfl, q _ (s12.trans' s3)⟩
abbrev s_Yard___eq__ : Stmt := inClass (top 42) 9
abbrev N_Yard___eq__ : List Str := ["self", "other"]
theorem sc_Yard___eq__ : FnScope N_Yard___eq__ ["self", "other"] (defScope s_Yard___eq__) := ⟨rfl, rfl, rfl, by decide +kernel, rfl, by decide +kernel, by decide +kernel⟩
theorem ok_Yard_eq {mcv : Value} (F : Fun K "__eq__" "Yard.__eq__" s_Yard___eq__ f fd) (T : Txt K mg aS a1 a2) (Y0 : YdC K mg CY mcv) (Y : YdF K CY) (I : IsaC K CY) (eS : EqC P w K mg base 1 C (StEq C)) : FnOk P w K mg base CX0 3 f fd ["self", "other"] (spEq (YdEq CY C)) := by
  refine F.ok sc_Yard___eq__ (fun vs H Q E h => ?_) (fun cdv A outer s H vs Q E hr h => ?_)
  · obtain ⟨a, b, rfl, _⟩ := h
    rfl
  obtain ⟨x, y, rfl, ⟨ts, ps, bg, ⟨⟨dx, a, b, c, d, e, f, hy, ⟨us, ha, pus⟩, ⟨ws, hb, pws⟩, _⟩, _⟩, ⟨⟨dx', a', b', c', d', e', f', hy', ⟨us', ha', pus'⟩, ⟨ws', hb', pws'⟩, _⟩, _⟩, ⟨_, _, _, _, _, _, _, gy, gg⟩, ⟨_, _, _, _, _, _, _, gy', gg'⟩, ok⟩, q⟩ := h
  have ee := Option.some.inj (hy.symm.trans gy)
  have ee' := Option.some.inj (hy'.symm.trans gy')
  unfold yflds at ee ee'
  injection ee with _ _ e3
  injection ee' with _ _ e3'
  simp only [List.cons.injEq, Prod.mk.injEq, V.ref.injEq, true_and, and_true] at e3 e3'
  obtain ⟨rfl, rfl, rfl, rfl, rfl, rfl⟩ := e3
  obtain ⟨rfl, rfl, rfl, rfl, rfl, rfl⟩ := e3'
  refine ⟨_, (pss_cons (ps_if (PW.pt (pw_or (pt_not (pt_val (pe_callB (kIsi K rfl) rfl T.b_isinstance bt_isinstance (pa_cons (pv 1) (pa_cons (C8.pe_gc rfl Y0.g_Yard) pa_nil))))) (pw_or1 (pt_cmpR (kNeTupO K rfl eS (fun _ _ _ _ => StEq.mon) hr (by decide)) (kFld K rfl (pv 0)) (kFld K rfl (pv 1)) (nomark _)))))
        (pss_one (ps_ret pe_bl))
        pss_nil)
        (pss_one (ps_ret (pe_and (pe_cmpR (kEqD K rfl hr.units) (kFld K rfl (pv 0)) (kFld K rfl (pv 1)) (nomark _)) (pe_one (pe_cmpR (kEqD K rfl hr.units) (kFld K rfl (pv 0)) (kFld K rfl (pv 1)) (nomark _))))))), ?_⟩
  refine ⟨_, rfl, _, _, _, _, _, rfl, .own CY, I.ty hy', kit_self, _, rfl, iteF ?_⟩
  refine ⟨_, rfl, x, CY, dx, _, _, rfl, hy, Y.cl, Y.nS, rfl, _, rfl, y, CY, dx', _, _, rfl, hy', Y.cl, Y.nS, rfl, ⟨a, a', us, us', rfl, rfl, SqT.of ha, SqT.of ha', prs_st pus pus' ok.ok⟩, fun H1 x1 => ⟨_, rfl, iteF ?_⟩⟩
  have t1 : Tups H H1 := fun b xs e => x1 _ _ e
  have pws1 := pipe_all t1 pws
  have pws1' := pipe_all t1 pws'
  have m2 := ok.m2
  have mp := ok.mp
  have lsrt : (srt ps).length = ps.length := (srt_perm ps).length_eq
  have n1 := pps_nice (ps := srt ps) (fun p hp => ppok_le (ok.pp p ((srt_perm ps).mem_iff.mp hp)) (by omega)) (by omega)
  refine ⟨_, rfl, x, CY, dx, _, _, rfl, x1 _ _ hy, Y.cl, Y.nP, rfl, _, rfl, y, CY, dx', _, _, rfl, x1 _ _ hy', Y.cl, Y.nP, rfl, _, _, .tup (SqT.of (t1 _ _ hb)) (dpall (fun _ _ r => r.dp) pws1), .tup (SqT.of (t1 _ _ hb')) (dpall (fun _ _ r => r.dp) pws1'), n1.shp (by decide), n1.shp (by decide), _, rfl, ?_⟩
  rw [eqv_dec n1.lay]
  refine iteT ⟨_, rfl, x, CY, dx, _, _, rfl, x1 _ _ hy, Y.cl, Y.nB, rfl, _, rfl, y, CY, dx', _, _, rfl, x1 _ _ hy', Y.cl, Y.nB, rfl, _, _, (gg.keep t1).dp, (gg'.keep t1).dp, bg_shp _, bg_shp _, ?_⟩
  rw [bg_eqv]
  exact q _ x1
end
end FY


set_option Elab.async false
set_option linter.all false
set_option maxRecDepth 100000
set_option maxHeartbeats 4000000
namespace FY
open PySem L2 FYR
theorem run_none {ts : List Stn} {ps : List Pipe} {z : Option (List Nat)} {σ σ' : Sta} {r : List Nat} (h : RunS ts ps z σ r σ') : RunS ts ps none σ r σ' := by
  induction h with
  | nil a b => exact .nil a b
  | cons a b c d _ ih =>
    refine .cons a b c ?_ ih
    obtain ⟨r, e⟩ := can_row d
    unfold canS
    rw [e]
theorem beg_bd {ts : List Stn} {qs : List Pipe} {bg : Bg} {ex : List (Nat × Nat)} {x : List Bool} (bo : BegOk ts qs.length bg) (hx : x.length ≤ 6) : BdS 6 (begS bg ex x) := by
  refine ⟨hx, fun b hb => ?_, fun b hb => ?_⟩
  · exact Nat.le_trans (bo.cb b hb) (by decide)
  · rw [(List.mem_replicate.mp hb).2]; exact Nat.zero_le _
theorem beg_ok {ts : List Stn} {qs : List Pipe} {bg : Bg} {x : List Bool} (bo : BegOk ts qs.length bg) (sr : srt qs = qs) (hx : x.length ≤ 6) : StOk ts qs (begS bg (exitsOf ts qs) x) ∧ FlOk (begS bg (exitsOf ts qs) x) :=
  bd_ok (beg_bd bo hx) (by decide) bo.l1 (by rw [sr]; exact bo.l2) (List.length_replicate) bo.st
theorem closed_run {ts : List Stn} {qs : List Pipe} {z : Option (List Nat)} (k : NK ts qs) {met : List Sta} (cl : ∀ σ' ∈ met, ∀ s, s < ts.length → canS ts qs σ' s z = true → aftR ts qs σ' s ∈ met) {σ σ' : Sta} {run : List Nat} (h : RunS ts qs z σ run σ') : σ ∈ met → σ' ∈ met := by
  induction h with
  | nil _ _ => exact id
  | cons a b c d _ ih => exact fun m => ih (cl _ m _ c (by rw [← k.sr]; exact d))
theorem filter_one {α : Type} {P : α → Bool} {x : α} : ∀ {l : List α}, l.Nodup → x ∈ l → P x = true → (∀ y ∈ l, P y = true → y = x) → l.filter P = [x]
  | a :: l, nd, m, p, u => by
    obtain ⟨n1, n2⟩ := List.nodup_cons.mp nd
    by_cases e : a = x
    · subst e
      rw [List.filter_cons, if_pos p]
      congr 1
      rw [List.filter_eq_nil_iff]
      intro y hy py
      have := u y (List.mem_cons_of_mem _ hy) py
      subst this
      exact n1 hy
    · have hm : x ∈ l := (List.mem_cons.mp m).resolve_left (Ne.symm e)
      have pa : ¬ P a = true := fun pa => e (u a (List.mem_cons_self ..) pa)
      rw [List.filter_cons, if_neg pa]
      exact filter_one n2 hm p fun y hy py => u y (List.mem_cons_of_mem _ hy) py
theorem eqv_iDs : ∀ a b : List Nat, PyData.eqvAll (iDs a) (iDs b) = decide (a = b)
  | [], [] => rfl
  | [], _ :: _ => rfl
  | _ :: _, [] => rfl
  | x :: a, y :: b => by
    show (PyData.eqv (.int (x : Nat)) (.int (y : Nat)) && PyData.eqvAll (iDs a) (iDs b)) = _
    rw [eqv_iDs a b]
    have : PyData.eqv (.int (x : Nat)) (.int (y : Nat)) = decide (x = y) := by
      by_cases e : x = y
      · subst e; simp [PyData.eqv]
      · have : (x : Int) ≠ (y : Int) := by omega
        simp [PyData.eqv, this, e]
    rw [this]
    simp
theorem eqv_tDs : ∀ a b : List (List Bool), PyData.eqvAll (tDs a) (tDs b) = decide (a = b)
  | [], [] => rfl
  | [], _ :: _ => rfl
  | _ :: _, [] => rfl
  | x :: a, y :: b => by
    show (PyData.eqv (.str (tx x)) (.str (tx y)) && PyData.eqvAll (tDs a) (tDs b)) = _
    rw [eqv_tDs a b]
    have : PyData.eqv (.str (tx x)) (.str (tx y)) = decide (x = y) := by
      by_cases e : x = y
      · subst e; simp [PyData.eqv]
      · have : tx x ≠ tx y := fun z => e (tx_inj z)
        simp [PyData.eqv, this, e]
    rw [this]
    simp
theorem sta_eq (σ σ' : Sta) [Decidable (σ = σ')] : PyData.eqv (staD σ) (staD σ') = decide (σ = σ') := by
  obtain ⟨a, b, c, d⟩ := σ
  obtain ⟨a', b', c', d'⟩ := σ'
  have e1 : PyData.eqv (.str (tx c)) (.str (tx c')) = decide (c = c') := by
    by_cases e : c = c'
    · subst e; simp [PyData.eqv]
    · have : tx c ≠ tx c' := fun z => e (tx_inj z)
      simp [PyData.eqv, this, e]
  show (PyData.eqvAll (iDs a) (iDs a') && (PyData.eqvAll (tDs b) (tDs b') && (PyData.eqv (.str (tx c)) (.str (tx c')) && (PyData.eqvAll (tDs d) (tDs d') && true)))) = _
  rw [eqv_iDs, eqv_tDs, eqv_tDs, e1]
  simp [Bool.and_assoc]
theorem sta_iff (σ σ' : Sta) : PyData.eqv (staD σ) (staD σ') = true ↔ σ = σ' := by
  haveI : Decidable (σ = σ') := Classical.propDecidable _
  rw [sta_eq, decide_eq_true_eq]
theorem run_take {ts : List Stn} {qs : List Pipe} {z : Option (List Nat)} (k : NK ts qs) {σ σ' : Sta} {run : List Nat} (h : RunS ts qs z σ run σ') (e : ableS ts qs σ' z = []) : ∀ m, m ≤ run.length → ∃ σm, RunS ts qs z σ (run.take m) σm ∧ decide (ableS ts qs σm z = []) = decide (m = run.length) := by
  induction h with
  | nil a b =>
    intro m hm
    obtain rfl : m = 0 := by simpa using hm
    exact ⟨_, .nil a b, by rw [e]; rfl⟩
  | @cons σ σ' s r a b c d h ih =>
    intro m hm
    cases m with
    | zero =>
      refine ⟨σ, .nil a b, ?_⟩
      have : ableS ts qs σ z ≠ [] := fun q => able_nil q c (by rw [← k.sr]; exact d)
      rw [decide_eq_false this]; simp
    | succ m =>
      obtain ⟨σm, h1, h2⟩ := ih e m (by simpa using hm)
      exact ⟨σm, .cons a b c d h1, by rw [h2]; simp⟩
def bo5 (b : Bool) : PyData := .list [.bool true, .bool true, .bool true, .bool b, .bool false]
theorem bo5_all : ∀ b : Bool, (bo5 b).showable = true ∧ (bo5 b).hasDict = false ∧ (bo5 b).depth ≤ 30 ∧ (bo5 b).shown.length ≤ 100 := by decide +kernel
def spEnds (CY C : Addr) : Sp := fun vs H Q _ => ∃ (A : List Addr) (p y : Addr) (ph zv : V) (x : List Bool) (ts : List Stn) (qs : List Pipe) (bg : Bg) (z : Option (List Nat)), vs = [.ref p, .ref y, ph, .str (tx x), zv] ∧ Pot p H ∧ p ∈ A ∧ (∀ a ∈ A, H a ≠ none) ∧ PlanA A H ph ts qs bg ∧ YK CY C H y ts qs ∧ YdBg CY H y bg ∧ SK H zv qs z ∧ srt qs = qs ∧ BegOk ts qs.length bg ∧ x.length ≤ 6 ∧ Phi ts qs (begS bg (exitsOf ts qs) x) ≤ 20000 ∧ ∀ H', Kp p H H' → Pot p H' → Q (.bl true) H'
theorem paired_take {α β : Type} {R : α → β → Prop} : ∀ {a : List α} {b : List β}, Paired R a b → ∀ k, Paired R (a.take k) (b.take k)
  | _, _, .nil, k => by rw [List.take_nil, List.take_nil]; exact .nil
  | _, _, .cons r q, 0 => .nil
  | _, _, .cons r q, k + 1 => .cons r (paired_take q k)
theorem nV_take (ns : List Nat) (k : Nat) : (nV ns).take k = nV (ns.take k) := by unfold nV; rw [List.map_take]
theorem int_eq (a b : Nat) : decide (V.int (a : Nat) = V.int (b : Nat)) = decide (a = b) := by
  by_cases e : a = b
  · subst e; simp
  · have : (a : Int) ≠ (b : Int) := by omega
    simp [e, this]
theorem cut_take (xs : List V) (k : Nat) : cutV xs none (some (k : Int)) = xs.take k := by
  unfold cutV HT.sIx
  have h : ¬ ((k : Int) < 0) := by omega
  simp [h]
theorem sta1_lay (σ : Sta) : (PyData.list [staD σ]).canLay0 = true := by
  simp [PyData.canLay0, PyData.canLayAll0, sta_lay σ]
theorem sta1_shp (σ : Sta) : SeqAt.shaped (.list [staD σ]) = true := by
  have h1 : (PyData.list [staD σ]).depth ≤ 3 := by
    have := sta_dep σ
    simp [PyData.depth, PyData.depthAll]
    omega
  unfold SeqAt.shaped
  simp [sta1_lay σ]
  omega
theorem sta1_eqv (σ : Sta) : PyData.eqv (.list [staD σ]) (.list [staD σ]) = true := eqv_dec (sta1_lay σ)
structure ES (A : List Addr) (CY C : Addr) (H : Hp) (p y : Addr) (ph wv zv : V) (ts : List Stn) (qs : List Pipe) (bg : Bg) (z : Option (List Nat)) (v : V) (L : Addr) (u : V) (σ0 σ1 : Sta) (run : List Nat) : Prop where
  wk : WK A CY C H p y ph wv zv ts qs bg z
  sv : StaA H v σ0
  hL : H L = some (.lst (nV run))
  su : StaA H u σ1
  nLp : L ≠ p
theorem ES.kp {A : List Addr} {CY C : Addr} {H H' : Hp} {p y : Addr} {ph wv zv : V} {ts : List Stn} {qs : List Pipe} {bg : Bg} {z : Option (List Nat)} {v : V} {L : Addr} {u : V} {σ0 σ1 : Sta} {run : List Nat} (h : ES A CY C H p y ph wv zv ts qs bg z v L u σ0 σ1 run) (k : Kp p H H') (po : Pot p H') : ES A CY C H' p y ph wv zv ts qs bg z v L u σ0 σ1 run :=
  ⟨h.wk.kp k po, h.sv.keep (h.wk.po.tups k), k _ _ h.nLp h.hL, h.su.keep (h.wk.po.tups k), h.nLp⟩
theorem ES.same {A : List Addr} {CY C : Addr} {H H' : Hp} {p y : Addr} {ph wv zv : V} {ts : List Stn} {qs : List Pipe} {bg : Bg} {z : Option (List Nat)} {v : V} {L : Addr} {u : V} {σ0 σ1 : Sta} {run : List Nat} (h : ES A CY C H p y ph wv zv ts qs bg z v L u σ0 σ1 run) (k : Same H H') : ES A CY C H' p y ph wv zv ts qs bg z v L u σ0 σ1 run := h.kp (Kp.of k) (h.wk.po.same k)
section
variable {P : Program} {w : World} {K : PySem.W.Frag} {mg : Str → Option Value} {base : Heap} {aS a1 a2 aL aT : Addr} {f : Addr} {fd : FuncData} {C CD CY : Addr} {mc : Value}
abbrev s_law_ends_right : Stmt := top 88
abbrev N_law_ends_right : List Str := ["_law_pot_here", "_law_made", "_law_plan_here", "_law_text", "_law_room", "_law_wires_here", "_law_begin_now", "_law_row_here", "_law_last", "_law_told", "_law_met", "_law_is_whole", "_law_still", "_law_turn", "_law_drawn", "_law_size", "_law_here"]
theorem sc_law_ends_right : FnScope N_law_ends_right ["_law_pot_here", "_law_made", "_law_plan_here", "_law_text", "_law_room"] (defScope s_law_ends_right) := ⟨rfl, rfl, rfl, by decide +kernel, rfl, by decide +kernel, by decide +kernel⟩
theorem ok_law_ends_right (F : Fun K "_law_ends_right" "_law_ends_right" s_law_ends_right f fd) (T : Txt K mg aS a1 a2) (c__law_draw : C8.Cal P w K mg base 1 "_law_draw" spDraw []) (c__law_wires : C8.Cal P w K mg base 1 "_law_wires" spWires []) (c__law_begin : C8.Cal P w K mg base 2 "_law_begin" spBeginL []) (c__law_first_run : C8.Cal P w K mg base 4 "_law_first_run" spFirstL []) (c__law_drawn_run : C8.Cal P w K mg base 4 "_law_drawn_run" spDrawnL []) (c__law_states : C8.Cal P w K mg base 4 "_law_states" spStates []) (c__law_able : C8.Cal P w K mg base 3 "_law_able" spAbleL []) (c__law_counts : C8.Cal P w K mg base 1 "_law_counts" spCountsL []) (c_full_run : C8.Cal P w K mg base 6 "full_run" (spRunF CY C) []) (k_full_run_0_sizes_stream_yard : CalN P w K mg base CX0 6 "full_run" (spRunF CY C) 0 ["sizes", "stream", "yard"] [2, 1, 0] [.non]) (c_end : C8.Cal P w K mg base 6 "end" (spEnd CY C) []) (k_end_0_yard_stream_sizes : CalN P w K mg base CX0 6 "end" (spEnd CY C) 0 ["yard", "stream", "sizes"] [0, 1, 2] [.non]) (c_can_be_done : C8.Cal P w K mg base 6 "can_be_done" (spCan CY C) []) (c_state_behind : C8.Cal P w K mg base 6 "state_behind" (spBehind CY C) []) (c_is_run : C8.Cal P w K mg base 6 "is_run" (spIsRun CY C) []) (d_is_run : C8.Cal P w K mg base 6 "is_run" (spIsRun CY C) [.non]) (n_is_run : C8.Cal P w K mg base 6 "is_run" (spIsRunN CY C) []) (c_is_full : C8.Cal P w K mg base 7 "is_full" (spFull CY C) []) : FnG P w K mg base 8 f fd ["_law_pot_here", "_law_made", "_law_plan_here", "_law_text", "_law_room"] (spEnds CY C) := by
  refine fnG_of F sc_law_ends_right (fun vs H Q E h => ?_) (fun cdv A0 outer s0 H vs Q E hgd hr h => ?_)
  · obtain ⟨A, p, y, ph, zv, x, ts, qs, bg, z, rfl, _⟩ := h
    rfl
  obtain ⟨A, p, y, ph, zv, x, ts, qs, bg, z, rfl, po, pA, nn, pl, yk, yb, sk, sr, bo, hx, hphi, q⟩ := h
  obtain ⟨so0, fo0⟩ := beg_ok (x := x) bo sr hx
  have bd0 := beg_bd (ex := exitsOf ts qs) bo hx
  generalize eσ : begS bg (exitsOf ts qs) x = σ0 at *
  have nk : NK ts qs := ⟨yk.yo, sr, by have := yk.al; rwa [sr] at this⟩
  have t12 := yk.yo.m2
  refine ⟨_, (pss_cons (ps_asg (pe_tup (pa_cons (C8.pe_c c__law_wires hr (by decide) rfl (pa_cons (pv 2) pa_nil)) (pa_cons (C8.pe_c c__law_begin hr (by decide) rfl (pa_cons (pv 2) (pa_cons (pv 3) pa_nil))) pa_nil))) (kTupG (n := 2) K rfl rfl (pgs_cons (pg_name (i := 5) sc_law_ends_right.nd rfl (Or.inr rfl)) (pgs_cons (pg_name (i := 6) sc_law_ends_right.nd rfl (Or.inl rfl)) pgs_nil))))
        (pss_cons (ps_asg (C8.pe_c c__law_first_run hr (by decide) rfl (pa_cons (pv 2) (pa_cons (pv 5) (pa_cons (pv 6) (pa_cons (pv 4) pa_nil))))) (kTupG (n := 2) K rfl rfl (pgs_cons (pg_name (i := 7) sc_law_ends_right.nd rfl (Or.inl rfl)) (pgs_cons (pg_name (i := 8) sc_law_ends_right.nd rfl (Or.inr rfl)) pgs_nil))))
        (pss_cons (ps_set (i := 9) sc_law_ends_right.nd rfl (Or.inl rfl) (C8.pe_c c_full_run hr (by decide) rfl (pa_cons (pv 1) (pa_cons (pv 3) (pa_cons (pv 4) pa_nil)))))
        (pss_cons (ps_if (pt_cmpR (kNeD K rfl hr.units) (pv 9) (pv 7) (nomark _))
        (pss_one (ps_ret pe_bl))
        pss_nil)
        (pss_cons (ps_expr (kBm K rfl PySem.F.plainAttrs_list PySem.F.slot_list_append PySem.F.type_list_append mt_append (pv 9) (pa_cons pe_non pa_nil)))
        (pss_cons (ps_if (pt_cmpR (kNeD K rfl hr.units) (pe_cN0 k_full_run_0_sizes_stream_yard hr (by decide) rfl pass0 (pk_cons (pv 4) (pk_cons (pv 3) (pk_cons (pv 1) pk_nil)))) (pv 7) (nomark _))
        (pss_one (ps_ret pe_bl))
        pss_nil)
        (pss_cons (ps_if (PW.pt (pw_or (pt_cmpR (kNeD K rfl hr.units) (C8.pe_c c_end hr (by decide) rfl (pa_cons (pv 1) (pa_cons (pv 3) (pa_cons (pv 4) pa_nil)))) (pv 8) (nomark _)) (pw_or1 (pt_cmpR (kNeD K rfl hr.units) (pe_cN0 k_end_0_yard_stream_sizes hr (by decide) rfl pass0 (pk_cons (pv 1) (pk_cons (pv 3) (pk_cons (pv 4) pk_nil)))) (pv 8) (nomark _)))))
        (pss_one (ps_ret pe_bl))
        pss_nil)
        (pss_cons (ps_asg (C8.pe_c c__law_states hr (by decide) rfl (pa_cons (pv 2) (pa_cons (pv 5) (pa_cons (pv 6) (pa_cons (pv 4) (pa_cons pe_int pa_nil)))))) (kTupG (n := 2) K rfl rfl (pgs_cons (pg_name (i := 10) sc_law_ends_right.nd rfl (Or.inl rfl)) (pgs_cons (pg_name (i := 11) sc_law_ends_right.nd rfl (Or.inl rfl)) pgs_nil))))
        (pss_cons (ps_if (pt_val (pv 11))
        (pss_cons (ps_setLc (i := 12) (own := [("_law_here", 16)]) rfl sc_law_ends_right.nd rfl rfl (sw_true rfl rfl rfl (by decide +kernel)) (kList K rfl (pv 10)) (blkOk_by (N := N_law_ends_right) (sc := defScope s_law_ends_right) (by decide +kernel)) (fun _ _ _ _ _ => (pg_name (i := 16) sc_law_ends_right.nd rfl (Or.inl rfl))) (fun _ _ _ _ _ => pts_one (pt_cmpR (kEqD K rfl hr.units) (C8.pe_c c__law_able hr (by decide) rfl (pa_cons (pv 2) (pa_cons (pv 5) (pa_cons (pv 16) (pa_cons (pv 4) pa_nil))))) (pe_lst pa_nil) (nomark _))) (fun _ _ _ _ _ => (pv 16)))
        (pss_one (ps_if (pt_cmpR (kNeD K rfl hr.units) (pv 12) (pe_lst (pa_cons (pv 8) pa_nil)) (nomark _))
        (pss_one (ps_ret pe_bl))
        pss_nil)))
        pss_nil)
        (pss_cons (ps_if (pt_not (pt_val (pe_callB (kAll K rfl rfl) rfl T.b_all bt_all (pa_cons (pe_lc (own := [("_law_here", 16)]) rfl sc_law_ends_right.nd (kList K rfl (pe_op op_cat (pe_slice (kSlL K rfl) (pv 10) po_none (po_some pe_int)) (pe_lst (pa_cons (pv 8) pa_nil)))) (blkOk_by (N := N_law_ends_right) (sc := defScope s_law_ends_right) (by decide +kernel)) (fun _ _ _ _ _ => (pg_name (i := 16) sc_law_ends_right.nd rfl (Or.inl rfl))) (fun _ _ _ _ _ => pts_nil) (fun _ _ _ _ _ => (pe_cmpR op_eq (pe_cmpR (kEqD K rfl hr.units) (C8.pe_c c_can_be_done hr (by decide) rfl (pa_cons (pv 1) (pa_cons (pv 16) (pa_cons (pv 4) pa_nil)))) (pe_lst pa_nil) (nomark _)) (pe_cmpR (kEqD K rfl hr.units) (pv 16) (pv 8) (nomark _)) (nomark _)))) pa_nil))))
        (pss_one (ps_ret pe_bl))
        pss_nil)
        (pss_cons (ps_for PassesOwn.never rfl (pi_range1 rfl T.b_range (pa_cons pe_int pa_nil)) (pg_name (i := 13) sc_law_ends_right.nd rfl (Or.inl rfl))
        (pss_cons (ps_set (i := 14) sc_law_ends_right.nd rfl (Or.inl rfl) (C8.pe_c c__law_drawn_run hr (by decide) rfl (pa_cons (pv 0) (pa_cons (pv 2) (pa_cons (pv 5) (pa_cons (pv 6) (pa_cons (pv 4) pa_nil)))))))
        (pss_cons (ps_if (PW.pt (pw_or (pt_cmpR (kNeD K rfl hr.units) (C8.pe_c c__law_counts hr (by decide) rfl (pa_cons (pv 2) (pa_cons (pv 14) pa_nil))) (C8.pe_c c__law_counts hr (by decide) rfl (pa_cons (pv 2) (pa_cons (pv 7) pa_nil))) (nomark _)) (pw_or1 (pt_cmpR (kNeD K rfl hr.units) (C8.pe_c c_state_behind hr (by decide) rfl (pa_cons (pv 1) (pa_cons (pv 3) (pa_cons (pv 14) (pa_cons (pv 4) pa_nil))))) (pv 8) (nomark _)))))
        (pss_one (ps_ret pe_bl))
        pss_nil)
        (pss_cons (ps_set (i := 15) sc_law_ends_right.nd rfl (Or.inl rfl) (C8.pe_c c__law_draw hr (by decide) rfl (pa_cons (pv 0) (pa_cons (pe_op op_add (pe_callB (kLen K rfl) rfl T.b_len bt_len (pa_cons (pv 14) pa_nil)) pe_int) pa_nil))))
        (pss_cons (ps_set (i := 9) sc_law_ends_right.nd rfl (Or.inl rfl) (pe_lst (pa_cons (C8.pe_c c_is_run hr (by decide) rfl (pa_cons (pv 1) (pa_cons (pv 3) (pa_cons (pv 14) (pa_cons (pv 4) pa_nil))))) (pa_cons (C8.pe_c c_is_full hr (by decide) rfl (pa_cons (pv 1) (pa_cons (pv 3) (pa_cons (pv 14) (pa_cons (pv 4) pa_nil))))) (pa_cons (C8.pe_c d_is_run hr (by decide) rfl (pa_cons (pv 1) (pa_cons (pv 3) (pa_cons (pv 14) pa_nil)))) pa_nil)))))
        (pss_cons (ps_expr (kBm K rfl PySem.F.plainAttrs_list PySem.F.slot_list_append PySem.F.type_list_append mt_append (pv 9) (pa_cons (C8.pe_c c_is_full hr (by decide) rfl (pa_cons (pv 1) (pa_cons (pv 3) (pa_cons (pe_slice (kSlL K rfl) (pv 14) po_none (po_some (pv 15))) (pa_cons (pv 4) pa_nil))))) pa_nil)))
        (pss_cons (ps_expr (kBm K rfl PySem.F.plainAttrs_list PySem.F.slot_list_append PySem.F.type_list_append mt_append (pv 9) (pa_cons (C8.pe_c n_is_run hr (by decide) rfl (pa_cons (pv 1) (pa_cons (pv 3) (pa_cons (pe_op op_cat (pv 14) (pe_lst (pa_cons pe_int pa_nil))) (pa_cons (pv 4) pa_nil))))) pa_nil)))
        (pss_one (ps_if (pt_cmpR op_ne (pe_callB (kRepr K rfl hgd hr) rfl T.b_repr bt_repr (pa_cons (pv 9) pa_nil)) (pe_callB (kRepr K rfl hgd hr) rfl T.b_repr bt_repr (pa_cons (pe_op op_cat (pe_op op_rep (pe_lst (pa_cons pe_bl pa_nil)) pe_int) (pe_lst (pa_cons (pe_cmpR op_eq (pv 15) (pe_callB (kLen K rfl) rfl T.b_len bt_len (pa_cons (pv 14) pa_nil)) (nomark _)) (pa_cons pe_bl pa_nil)))) pa_nil)) (nomark _))
        (pss_one (ps_ret pe_bl))
        pss_nil)))))))))
        (pss_one (ps_ret pe_bl))))))))))))), ?_⟩
  refine ⟨_, rfl, A, ph, ts, qs, bg, rfl, pl, yk.yo, nn, fun H1 wv s1 wi1 => ?_⟩
  refine ⟨_, rfl, _, rfl, A, ph, x, ts, qs, bg, rfl, pl.kl (KL.of s1), yk.yo, same_nn s1 nn, fun H2 v s2 sv => ⟨sz rfl, fun T0 hT0 => ?_⟩⟩
  rw [eσ] at sv
  refine ⟨_, _, rfl, SqT.of upd_same, rfl, _, _, rfl, _, _, rfl, rfl, ?_⟩
  have k3 := same_new hT0 (.tup [wv, v])
  have s03 := (s1.trans' s2).trans' k3
  have s13 := s2.trans' k3
  have sv3 := sv.keep (Tups.of k3)
  have wk : WK A CY C _ p y ph wv zv ts qs bg z := ⟨po.same s03, pA, ⟨pl.kl (KL.of s03), wi1.kl (KL.of s13), yk.yo, sr⟩, yk.keep (NL.of s03), yb.nl (NL.of s03), sk.keep (Tups.of s03)⟩
  have kH : Kp p H _ := Kp.of s03
  clear s03 s13 k3 sv s2 s1 wi1 pl nn hT0 yk yb sk
  generalize upd H2 T0 (.tup [wv, v]) = H3 at *
  refine ⟨_, rfl, _, rfl, _, rfl, _, rfl, A, ph, wv, v, zv, ts, qs, bg, z, σ0, 6, rfl, ⟨wk.lk, sv3, so0, fo0, bd0, wk.sk.a, wk.sk.o, by omega⟩, fun H4 p4 L u run σ1 s4 hp4 hL0 hL su fin lr => ?_⟩
  refine ⟨_, _, rfl, SqT.of hp4, rfl, _, _, rfl, _, _, rfl, rfl, ?_⟩
  have wk4 := wk.same s4
  have sv4 := sv3.keep (Tups.of s4)
  have kH4 := kH.trans (Kp.of s4)
  have nLp : L ≠ p := wk.po.ne hL0
  obtain ⟨rn, ea⟩ := fin.run
  rw [sr] at ea
  clear hp4 hL0 wk sv3 kH s4
  have es4 : ES A CY C H4 p y ph wv zv ts qs bg z v L u σ0 σ1 run := ⟨wk4, sv4, hL, su, nLp⟩
  clear wk4 sv4 hL su nLp
  have rl : run.length ≤ 20000 := by omega
  dsimp only
  refine seq_i ?_
  refine ⟨_, rfl, _, rfl, _, rfl, y, zv, x, σ1, run, z, ts, qs, bg, rfl, es4.wk.yk, es4.wk.yb, by omega, es4.wk.sk, by rw [eσ]; exact fin, rl, fun H5 N s5 hN0 hN => ?_⟩
  refine ⟨_, rfl, _, rfl, _, _, nums_dp hN, nums_dp (es4.same s5).hL, nums_shp _, nums_shp _, _, rfl, iteFd (neD (nums_eqv _)) ?_⟩
  have l16 : (100000 : Nat) < sizeLine := by decide
  refine ⟨_, rfl, .inl ⟨rfl, _, SqL.of hN⟩, N, _, _, rfl, rfl, hN, by rw [nV_len]; omega, ?_⟩
  have es6 := es4.same (same_at (o := .lst (nV run ++ [.non])) s5 hN0)
  have k46 : Kp p H _ := kH4.trans (Kp.of (same_at (o := .lst (nV run ++ [.non])) s5 hN0))
  clear es4 s5 hN0 hN kH4
  generalize upd H5 N (.lst (nV run ++ [.non])) = H6 at *
  refine ⟨_, rfl, _, rfl, _, rfl, rfl, y, zv, x, σ1, run, z, ts, qs, bg, rfl, es6.wk.yk, es6.wk.yb, by omega, es6.wk.sk, by rw [eσ]; exact fin, rl, fun H7 N7 s7 hN0 hN => ?_⟩
  have es7 := es6.same s7
  refine ⟨_, rfl, _, _, nums_dp hN, nums_dp es7.hL, nums_shp _, nums_shp _, _, rfl, iteFd (neD (nums_eqv _)) ?_⟩
  refine ⟨_, rfl, _, rfl, _, rfl, y, zv, x, σ1, run, z, ts, qs, bg, rfl, es7.wk.yk, es7.wk.yb, by omega, es7.wk.sk, by rw [eσ]; exact fin, rl, fun H8 u8 s8 su8 => ?_⟩
  have es8 := es7.same s8
  refine ⟨_, rfl, _, _, su8.dp, es8.su.dp, sta_shp _, sta_shp _, _, rfl, iteFd (neD (sta_eqv _)) ?_⟩
  refine ⟨_, rfl, _, rfl, _, rfl, rfl, y, zv, x, σ1, run, z, ts, qs, bg, rfl, es8.wk.yk, es8.wk.yb, by omega, es8.wk.sk, by rw [eσ]; exact fin, rl, fun H9 u9 s9 su9 => ?_⟩
  have es9 := es8.same s9
  refine ⟨_, rfl, _, _, su9.dp, es9.su.dp, sta_shp _, sta_shp _, _, rfl, iteFd (neD (sta_eqv _)) ?_⟩
  have k49 := k46.trans (Kp.of ((s7.trans' s8).trans' s9))
  clear es6 es7 es8 s7 s8 s9 su8 su9 hN0 hN k46
  refine tNext_i ?_
  dsimp only
  refine seq_i ?_
  refine ⟨_, rfl, _, rfl, _, rfl, _, rfl, A, ph, wv, v, zv, ts, qs, bg, z, σ0, 6, rfl, ⟨es9.wk.lk, es9.sv, so0, fo0, bd0, es9.wk.sk.a, es9.wk.sk.o, by omega⟩, fun H10 p10 ML us met wh s10 hp10 hML0 hML pr ml rc un s0m cl => ?_⟩
  refine ⟨_, _, rfl, SqT.of hp10, rfl, _, _, rfl, _, _, rfl, rfl, ?_⟩
  have es10 := es9.same s10
  have k10 := k49.trans (Kp.of s10)
  have nMp : ML ≠ p := es9.wk.po.ne hML0
  clear es9 k49 s10 hp10 hML0
  have m1 : wh = true → σ1 ∈ met := fun e => closed_run nk (cl e) rn s0m
  have one : ∀ σ' ∈ met, ableS ts qs σ' z = [] → σ' = σ1 := fun σ' m e => by
    obtain ⟨r', rn'⟩ := rc σ' m
    have l1 := rn'.len nk
    exact (RunS.one nk rn' e rn ea bd0 (by omega) (by omega)).1
  dsimp only
  refine seq_splitB (fun τ H' => ∃ (t9 t12 t13 t14 t15 t16 : Option V), τ = [some (.ref p), some (.ref y), some ph, some (.str (tx x)), some zv, some wv, some v, some (.ref L), some u, t9, some (.ref ML), some (.bl wh), t12, t13, t14, t15, t16] ∧ Same H10 H') (fun D' hrt nxt => ?_) ?_
  · refine ⟨_, rfl, _, rfl, ?_⟩
    cases wh with
    | false => exact iteF (nxt _ _ ⟨_, _, _, _, _, _, rfl, Same.refl _⟩)
    | true =>
      refine iteT ?_
      refine seq_i ?_
      refine ⟨_, rfl, _, rfl, ⟨_, SqL.of hML⟩, fun D hD => lc_it walk_list (fun i H' => Same H10 H' ∧ ∃ ws, H' D = some (.lst ws) ∧ Paired (StaA H') ws ((met.take i).filter fun σ' => decide (ableS ts qs σ' z = []))) ⟨same_new hD _, [], upd_same, .nil⟩ (fun i H' _ z => SqL.of (z.1 _ _ hML)) ?_ ?_⟩
      · rintro i xi G1 G2 hi ⟨sm, ws, hd, pw⟩ ⟨rfl, hxi⟩
        obtain ⟨σi, hσi, si⟩ := paired_get pr hxi
        have es := es10.same sm
        obtain ⟨r', rn'⟩ := rc σi (List.mem_of_getElem? hσi)
        obtain ⟨soi, foi⟩ := rn'.okEnd
        have hil := lt_len hσi
        have wlen : ws.length ≤ 200 := by
          have := paired_len2 pw
          rw [this]
          exact Nat.le_trans (List.length_filter_le _ _) (Nat.le_trans (List.length_take_le _ _) (by omega))
        obtain ⟨a1', a2'⟩ := able_small (qs := qs) (σ := σi) (z := z) t12
        refine ⟨rfl, _, rfl, _, rfl, _, rfl, _, rfl, A, ph, wv, xi, zv, σi, z, ts, qs, bg, rfl, es.wk.lk, si.keep (Tups.of sm), soi, es.wk.sk.a, es.wk.sk.o, fun G3 B s3 hB0 hB => ⟨sz rfl, fun E0 hE0 => ?_⟩⟩
        have k4 := same_new hE0 (.lst [])
        have s34 := s3.trans' k4
        refine ⟨_, .list [], .lst (SqL.of (k4 _ _ hB)) (dpints _), .lst (SqL.of upd_same) .nil, shp_ints a1' (by omega), by rfl, _, rfl, ?_⟩
        rw [eqv_nil]
        have et : (met.take (i + 1)).filter (fun σ' => decide (ableS ts qs σ' z = [])) = (met.take i).filter (fun σ' => decide (ableS ts qs σ' z = [])) ++ if decide (ableS ts qs σi z = []) = true then [σi] else [] := by
          rw [List.take_add_one, hσi, List.filter_append]
          congr 1
          show List.filter _ [σi] = _
          rw [List.filter_cons, List.filter_nil]
        have smF := sm.trans' s34
        have hdF := s34 _ _ hd
        have pwF := stas_keep (Tups.of s34) pw
        have siF := si.keep (Tups.of smF)
        clear k4 hE0 hB0 hB hd pw sm s3 s34 es
        generalize upd G3 E0 (.lst []) = G4 at *
        by_cases e : ableS ts qs σi z = []
        · have e' : decide (ableS ts qs σi z = []) = true := decide_eq_true e
          rw [e']
          refine iteT ⟨_, rfl, _, hdF, by omega, same_at smF hD, ws ++ [xi], upd_same, ?_⟩
          rw [et, if_pos e']
          exact stas_keep (NL.at hdF).tups (paired_app pwF (.cons siF .nil))
        · have e' : decide (ableS ts qs σi z = []) = false := decide_eq_false e
          rw [e']
          refine iteF ⟨smF, ws, hdF, ?_⟩
          rw [et, e', if_neg Bool.false_ne_true, List.append_nil]
          exact pwF
      · rintro G1 ⟨sm, ws, hd, pw⟩
        have lu := paired_len2 pr
        rw [lu, List.take_length, filter_one (x := σ1) un (m1 rfl) (decide_eq_true ea) (fun σ' m e => one σ' m (of_decide_eq_true e))] at pw
        cases pw with
        | @cons w1 _ _ _ hw t =>
        cases t
        refine ⟨_, rfl, _, rfl, sz rfl, fun N2 hN2 => ?_⟩
        have k2 := same_new hN2 (.lst [u])
        have es := (es10.same sm).same k2
        refine ⟨.list [staD σ1], .list [staD σ1], .lst (SqL.of (k2 _ _ hd)) (.cons (hw.keep (Tups.of k2)).dp .nil), .lst (SqL.of upd_same) (.cons es.su.dp .nil), sta1_shp _, sta1_shp _, _, rfl, iteFd (neD (sta1_eqv _)) ?_⟩
        exact nxt _ _ ⟨_, _, _, _, _, _, rfl, sm.trans' k2⟩
  · rintro τ H11 ⟨t9, t12', t13, t14, t15, t16, rfl, s11⟩
    have es11 := es10.same s11
    have k11 := k10.trans (Kp.of s11)
    have hML11 := s11 _ _ hML
    have pr11 := stas_keep (Tups.of s11) pr
    clear es10 s11 hML pr k10
    refine seq_splitB (fun τ H' => ∃ (t9 t12 t13 t14 t15 t16 : Option V), τ = [some (.ref p), some (.ref y), some ph, some (.str (tx x)), some zv, some wv, some v, some (.ref L), some u, t9, some (.ref ML), some (.bl wh), t12, t13, t14, t15, t16] ∧ Same H11 H') (fun D' hrt nxt => ?_) ?_
    · refine ⟨_, rfl, 20, rfl, ML, us, rfl, SqL.of hML11, fun p1 hp1 => ⟨_, rfl, sz rfl, fun p2 hp2 => ?_⟩⟩
      have e20 : cutV us none (some (20 : Int)) = us.take 20 := cut_take us 20
      rw [e20] at hp2 ⊢
      have k1 := same_new hp1 (.lst (us.take 20))
      have k2 := same_new hp2 (.lst [u])
      refine ⟨p1, p2, _, _, rfl, rfl, k2 _ _ upd_same, upd_same, ?_, fun p3 hp3 => ?_⟩
      · rw [List.length_take]
        exact Nat.le_trans (show min 20 us.length + 1 ≤ 21 by omega) (by decide)
      have k3 := same_new hp3 (.lst (us.take 20 ++ [u]))
      have s14 := (k1.trans' k2).trans' k3
      have hE : (upd (upd (upd H11 p1 (.lst (us.take 20))) p2 (.lst [u])) p3 (.lst (us.take 20 ++ [u]))) p3 = some (.lst (us.take 20 ++ [u])) := upd_same
      clear k1 k2 k3 hp1 hp2 hp3
      generalize upd (upd (upd H11 p1 (.lst (us.take 20))) p2 (.lst [u])) p3 (.lst (us.take 20 ++ [u])) = H14 at *
      have es14 := es11.same s14
      have prE : Paired (StaA H14) (us.take 20 ++ [u]) (met.take 20 ++ [σ1]) := paired_app (paired_take (stas_keep (Tups.of s14) pr11) 20) (.cons es14.su .nil)
      refine ⟨_, rfl, ⟨_, SqL.of hE⟩, fun D hD => lc_it walk_list (fun i H' => Same H14 H' ∧ H' D = some (.lst (List.replicate i (.bl true)))) ⟨same_new hD _, upd_same⟩ (fun i H' _ z => SqL.of (z.1 _ _ hE)) ?_ ?_⟩
      · rintro i xi G1 G2 hi ⟨sm, hd⟩ ⟨rfl, hxi⟩
        obtain ⟨σi, hσi, si⟩ := paired_get prE hxi
        have hlE : i < 21 := by
          have := lt_len hσi
          rw [List.length_append, List.length_take] at this
          simp at this
          omega
        have hm : ∃ r', RunS ts qs z σ0 r' σi := by
          rcases List.mem_append.mp (List.mem_of_getElem? hσi) with m | m
          · exact rc σi (List.mem_of_mem_take m)
          · rw [List.mem_singleton.mp m]; exact ⟨run, rn⟩
        have iff1 : ableS ts qs σi z = [] ↔ σi = σ1 := by
          refine ⟨fun e => ?_, fun e => by rw [e]; exact ea⟩
          obtain ⟨r', rn'⟩ := hm
          have l1 := rn'.len nk
          exact (RunS.one nk rn' e rn ea bd0 (by omega) (by omega)).1
        obtain ⟨r', rn'⟩ := hm
        obtain ⟨soi, foi⟩ := rn'.okEnd
        have es := es14.same sm
        obtain ⟨a1', a2'⟩ := able_small (qs := qs) (σ := σi) (z := z) t12
        refine ⟨rfl, tyI ?_⟩
        refine ⟨_, rfl, _, rfl, _, rfl, y, xi, zv, σi, z, ts, qs, rfl, es.wk.yk, si.keep (Tups.of sm), soi, foi, es.wk.sk, fun G3 B s3 hB0 hB => ⟨sz rfl, fun E0 hE0 => ?_⟩⟩
        rw [sr] at hB
        have k4 := same_new hE0 (.lst [])
        have s34 := s3.trans' k4
        refine ⟨_, .list [], .lst (SqL.of (k4 _ _ hB)) (dpints _), .lst (SqL.of upd_same) .nil, shp_ints a1' (by omega), by rfl, ?_⟩
        rw [eqv_nil]
        refine ⟨_, rfl, _, rfl, staD σi, staD σ1, (si.keep (Tups.of (sm.trans' s34))).dp, (es.same s34).su.dp, sta_shp _, sta_shp _, rfl, ?_⟩
        have eb : decide (V.bl (decide (ableS ts qs σi z = [])) = V.bl (PyData.eqv (staD σi) (staD σ1))) = true := by
          have e2 : PyData.eqv (staD σi) (staD σ1) = decide (ableS ts qs σi z = []) := by
            rw [Bool.eq_iff_iff, sta_iff, decide_eq_true_eq]
            exact iff1.symm
          rw [e2]
          simp
        rw [eb]
        refine ⟨_, s34 _ _ hd, ?_, same_at (sm.trans' s34) hD, ?_⟩
        · rw [List.length_replicate]
          exact Nat.lt_of_lt_of_le (show i < 100 by omega) (by decide)
        · rw [upd_same, List.replicate_succ']
      · rintro G1 ⟨sm, hd⟩
        refine ⟨_, List.replicate (us.take 20 ++ [u]).length true, rfl, SqL.of (by rw [hd, List.map_replicate]), ?_⟩
        have e : (List.replicate (us.take 20 ++ [u]).length true).all id = true := by simp
        rw [e]
        refine ⟨_, rfl, iteF ?_⟩
        exact nxt _ _ ⟨_, _, _, _, _, _, rfl, s14.trans' sm⟩
    · rintro τ H12 ⟨t9', t12'', t13', t14', t15', t16', rfl, s12⟩
      have es12 := es11.same s12
      have k12 := k11.trans (Kp.of s12)
      clear es11 s12 k11 pr11 hML11
      have hml : 0 < ts.length := nk.yo.m1
      refine ⟨3, rfl, by decide, by decide, for_it walk_range (fun i τ H' => ∃ (t9 t12 t13 t14 t15 t16 : Option V), τ = [some (.ref p), some (.ref y), some ph, some (.str (tx x)), some zv, some wv, some v, some (.ref L), some u, t9, some (.ref ML), some (.bl wh), t12, t13, t14, t15, t16] ∧ Kp p H12 H' ∧ Pot p H') ⟨_, _, _, _, _, _, rfl, Kp.refl _ _, es12.wk.po⟩ (fun _ _ _ _ _ => trivial) ?_ ?_⟩
      · rintro i xi τ G0 G1 hi ⟨t9, t12, t13, t14, t15, t16, rfl, kG, pG⟩ ⟨rfl, hxi⟩
        have es := es12.kp kG pG
        refine seq_i ?_
        refine ⟨_, rfl, _, rfl, _, rfl, _, rfl, _, rfl, A, p, ph, wv, v, zv, ts, qs, bg, z, σ0, 6, rfl, pG, pA, ⟨es.wk.lk, es.sv, so0, fo0, bd0, es.wk.sk.a, es.wk.sk.o, by omega⟩, fun G2 R rd σ2 k2 p2 hR0 hR rnd ead lrd => ?_⟩
        obtain ⟨rfl, pm⟩ := RunS.one nk rnd ead rn ea bd0 (by omega) (by omega)
        have es2 := es.kp k2 p2
        have kG2 := kG.trans k2
        have nRp : R ≠ p := pG.ne hR0
        have ec : cntS ts rd = cntS ts run := by unfold cntS; exact List.map_congr_left fun s _ => pm.count_eq s
        clear es k2 hR0
        refine ⟨_, rfl, _, rfl, A, ph, R, ts, qs, bg, rd, rfl, es2.wk.lk.pl, by omega, hR, fun G3 N1 s3 hN0 hN => ?_⟩
        refine ⟨_, rfl, _, rfl, A, ph, L, ts, qs, bg, run, rfl, (es2.same s3).wk.lk.pl, by omega, (es2.same s3).hL, fun G4 N2 s4 hM0 hM => ?_⟩
        rw [ec] at hN
        refine ⟨_, _, nums_dp (s4 _ _ hN), nums_dp hM, nums_shp _, nums_shp _, _, rfl, iteFd (neD (nums_eqv _)) ?_⟩
        have s24 := s3.trans' s4
        have es4 := es2.same s24
        have hR4 := s24 _ _ hR
        refine ⟨_, rfl, _, rfl, _, rfl, _, rfl, y, R, zv, x, rd, σ2, z, ts, qs, bg, rfl, es4.wk.yk, es4.wk.yb, by omega, .inl hR4, es4.wk.sk, by rw [eσ]; exact rnd, fun G5 u5 s5 su5 => ?_⟩
        have es5 := es4.same s5
        refine ⟨_, rfl, _, _, su5.dp, es5.su.dp, sta_shp _, sta_shp _, _, rfl, iteFd (neD (sta_eqv _)) ?_⟩
        have hR5 := s5 _ _ hR4
        have kG5 := kG2.trans (Kp.of (s24.trans' s5))
        clear es2 es4 hN0 hN hM0 hM s3 s4 s24 s5 su5 hR hR4 kG2
        refine tNext_i ?_
        dsimp only
        refine seq_i ?_
        refine ⟨_, rfl, _, rfl, _, _, rfl, .inl (SqL.of hR5), _, _, rfl, rfl, p, _, rfl, es5.wk.po, by rw [nV_len]; omega, by rw [nV_len]; omega, fun d G6 d0 d1 k6 p6 => ?_⟩
        rw [nV_len] at d1
        obtain ⟨m, rfl⟩ : ∃ m : Nat, d = (m : Int) := ⟨d.toNat, (Int.toNat_of_nonneg d0).symm⟩
        have ml' : m ≤ rd.length := by omega
        obtain ⟨σm, rnm, em⟩ := run_take nk rnd ead m ml'
        have es6 := es5.kp k6 p6
        have hR6 := k6 _ _ nRp hR5
        have kG6 := kG5.trans k6
        clear es5 k6 hR5 kG5 d0 d1
        have eable : decide (ableS ts (srt qs) σ2 z = []) = true := by rw [sr]; exact decide_eq_true ea
        have eable' : decide (ableS ts (srt qs) σm z = []) = decide (m = rd.length) := by rw [sr]; exact em
        refine gN_i ?_
        dsimp only
        refine seq_i ?_
        refine ⟨_, rfl, _, rfl, _, rfl, _, rfl, y, R, zv, x, rd, σ2, z, ts, qs, bg, rfl, es6.wk.yk, es6.wk.yb, by omega, .inl hR6, es6.wk.sk, by rw [eσ]; exact rnd, fun G7 s7 => ?_⟩
        have es7 := es6.same s7
        refine ⟨_, rfl, _, rfl, _, rfl, _, rfl, y, R, zv, x, rd, σ2, z, ts, qs, bg, rfl, es7.wk.yk, es7.wk.yb, by omega, .inl (s7 _ _ hR6), es7.wk.sk, by rw [eσ]; exact rnd, fun G8 s8 => ?_⟩
        rw [eable]
        have es8 := es7.same s8
        have hR8 := s8 _ _ (s7 _ _ hR6)
        refine ⟨_, rfl, _, rfl, _, rfl, y, R, .non, x, rd, σ2, none, ts, qs, bg, rfl, es8.wk.yk, es8.wk.yb, by omega, .inl hR8, SK.none, by rw [eσ]; exact run_none rnd, fun G9 s9 => ⟨sz rfl, fun N hN => ?_⟩⟩
        have s69 := (s7.trans' s8).trans' s9
        have hN6 := none_of s69 hN
        have sA : Same G6 (upd G9 N (.lst [.bl true, .bl true, .bl true])) := same_at s69 hN6
        have hNA : (upd G9 N (.lst [.bl true, .bl true, .bl true])) N = some (.lst [.bl true, .bl true, .bl true]) := upd_same
        clear es7 es8 hR8 s7 s8 s9 hN s69
        generalize upd G9 N (.lst [.bl true, .bl true, .bl true]) = G10 at *
        refine gN_i ?_
        dsimp only
        refine seq_i ?_
        refine ⟨_, rfl, .inl ⟨rfl, _, SqL.of hNA⟩, _, rfl, _, rfl, _, rfl, _, rfl, (m : Int), rfl, R, _, rfl, SqL.of (sA _ _ hR6), fun q1 hq1 => ?_⟩
        rw [cut_take, nV_take]
        have sB := sA.trans' (same_new hq1 (.lst (nV (rd.take m))))
        have esB := es6.same sB
        refine ⟨_, rfl, y, q1, zv, x, rd.take m, σm, z, ts, qs, bg, rfl, esB.wk.yk, esB.wk.yb, by omega, .inl upd_same, esB.wk.sk, by rw [eσ]; exact rnm, fun G12 s12' => ?_⟩
        rw [eable']
        have hNB := s12' _ _ (same_new hq1 (.lst (nV (rd.take m))) _ _ hNA)
        refine ⟨N, _, _, rfl, rfl, hNB, by show 3 < sizeLine; decide, ?_⟩
        have sC : Same G6 (upd G12 N (.lst ([.bl true, .bl true, .bl true] ++ [.bl (decide (m = rd.length))]))) := same_at (sB.trans' s12') hN6
        have hNC : (upd G12 N (.lst ([.bl true, .bl true, .bl true] ++ [.bl (decide (m = rd.length))]))) N = some (.lst [.bl true, .bl true, .bl true, .bl (decide (m = rd.length))]) := upd_same
        clear sA hNA hq1 sB esB s12' hNB
        generalize upd G12 N (.lst ([.bl true, .bl true, .bl true] ++ [.bl (decide (m = rd.length))])) = G13 at *
        have hRC := sC _ _ hR6
        refine ⟨_, rfl, .inl ⟨rfl, _, SqL.of hNC⟩, _, rfl, _, rfl, _, rfl, sz rfl, fun q2 hq2 => ⟨R, q2, _, _, rfl, rfl, same_new hq2 _ _ _ hRC, upd_same, by rw [nV_len]; show rd.length + 1 ≤ sizeLine; omega, fun q3 hq3 => ?_⟩⟩
        have e0 : nV rd ++ [.int 0] = nV (rd ++ [0]) := by unfold nV; rw [List.map_append]; rfl
        rw [e0]
        have sD := (sC.trans' (same_new hq2 (.lst [.int 0]))).trans' (same_new hq3 (.lst (nV (rd ++ [0]))))
        have esD := es6.same sD
        refine ⟨_, rfl, y, q3, zv, x, rd, 0, σ2, z, ts, qs, bg, rfl, esD.wk.yk, esD.wk.yb, by omega, upd_same, esD.wk.sk, by rw [eσ]; exact rnd, hml, ?_, fun G14 s14 => ?_⟩
        · rw [sr]
          cases e : canS ts qs σ2 0 z with
          | false => rfl
          | true => exact (able_nil ea hml e).elim
        have hND := s14 _ _ (same_new hq3 (.lst (nV (rd ++ [0]))) _ _ (same_new hq2 (.lst [.int 0]) _ _ hNC))
        refine ⟨N, _, _, rfl, rfl, hND, by show 4 < sizeLine; decide, ?_⟩
        have sE : Same G6 (upd G14 N (.lst ([.bl true, .bl true, .bl true, .bl (decide (m = rd.length))] ++ [.bl false]))) := same_at (sD.trans' s14) hN6
        have hNE : (upd G14 N (.lst ([.bl true, .bl true, .bl true, .bl (decide (m = rd.length))] ++ [.bl false]))) N = some (.lst [.bl true, .bl true, .bl true, .bl (decide (m = rd.length)), .bl false]) := upd_same
        clear sC hNC hRC hq2 hq3 sD esD s14 hND
        generalize upd G14 N (.lst ([.bl true, .bl true, .bl true, .bl (decide (m = rd.length))] ++ [.bl false])) = G15 at *
        have esE := es6.same sE
        have hRE := sE _ _ hR6
        obtain ⟨b1, b2, b3, b4⟩ := bo5_all (decide (m = rd.length))
        have b5 : (bo5 (decide (m = rd.length))).shown.length ≤ sizeLine := Nat.le_trans b4 (by decide)
        refine ⟨_, rfl, _, bo5 (decide (m = rd.length)), rfl, .lst (SqL.of hNE) (.cons (.bl _) (.cons (.bl _) (.cons (.bl _) (.cons (.bl _) (.cons (.bl _) .nil))))), b1, b2, b3, b5, ?_⟩
        refine ⟨sz rfl, fun a1 ha1 => ⟨a1, 3, _, rfl, rfl, upd_same, by decide, by decide, by show 1 * 3 ≤ sizeLine; decide, fun a2 ha2 => ?_⟩⟩
        have sF := (same_new ha1 (.lst [.bl true])).trans' (same_new ha2 (.lst (List.replicate (3 : Int).toNat [V.bl true]).flatten))
        have h2 : (upd (upd G15 a1 (.lst [.bl true])) a2 (.lst (List.replicate (3 : Int).toNat [V.bl true]).flatten)) a2 = some (.lst [.bl true, .bl true, .bl true]) := upd_same
        generalize upd (upd G15 a1 (.lst [.bl true])) a2 (.lst (List.replicate (3 : Int).toNat [V.bl true]).flatten) = G16 at *
        refine ⟨_, rfl, _, rfl, _, _, rfl, .inl (SqL.of (sF _ _ hRE)), rfl, sz rfl, fun a3 ha3 => ?_⟩
        rw [nV_len, int_eq m rd.length]
        have h3 := same_new ha3 (.lst [.bl (decide (m = rd.length)), .bl false]) _ _ h2
        refine ⟨a2, a3, _, _, rfl, rfl, h3, upd_same, by show 5 ≤ sizeLine; decide, fun a4 ha4 => ?_⟩
        refine ⟨_, bo5 (decide (m = rd.length)), rfl, .lst (SqL.of upd_same) (.cons (.bl _) (.cons (.bl _) (.cons (.bl _) (.cons (.bl _) (.cons (.bl _) .nil))))), b1, b2, b3, b5, ?_⟩
        refine ⟨rfl, _, rfl, iteFd (by simp) ?_⟩
        have sG := ((sE.trans' sF).trans' (same_new ha3 (.lst [.bl (decide (m = rd.length)), .bl false]))).trans' (same_new ha4 (.lst ([.bl true, .bl true, .bl true] ++ [.bl (decide (m = rd.length)), .bl false])))
        exact ⟨_, _, _, _, _, _, rfl, kG6.trans (Kp.of sG), (es6.same sG).wk.po⟩
      · rintro τ G0 ⟨t9, t12, t13, t14, t15, t16, rfl, kG, pG⟩
        exact q _ (k12.trans kG) pG
end
end FY


set_option Elab.async false
set_option linter.all false
set_option maxRecDepth 100000
set_option maxHeartbeats 4000000
namespace FY
open PySem L2 FYR
theorem stn0 {ts : List Stn} {qs : List Pipe} {σ : Sta} (k : NK ts qs) (so : StOk ts qs σ) : (sgAt ts σ 0).reads = .one ∧ (sgAt ts σ 0).rows.length = 2 := by
  have hs : 0 < ts.length := k.yo.m1
  have et : ts[0]? = some ts[0] := List.getElem?_eq_getElem hs
  have tok := k.yo.ok _ (List.getElem_mem hs)
  have i1 : ts[0].ins = 1 := k.yo.hd _ (by rw [List.head?_eq_getElem?]; exact et)
  have ls : 0 < σ.sd.length := by rw [so.ls]; exact hs
  have eg : σ.sd[0]? = some σ.sd[0] := List.getElem?_eq_getElem ls
  have lg := so.st 0 _ _ et eg
  have e : sgAt ts σ 0 = ts[0].stgs[σ.sd[0]] := by
    unfold sgAt
    rw [et, eg]
    show ((ts[0].stgs[σ.sd[0]]?).getD _) = _
    rw [List.getElem?_eq_getElem lg]
    rfl
  obtain ⟨r, rl, _⟩ := tok.sg _ (List.getElem_mem lg)
  rw [e]
  rcases r with r | r
  · exact ⟨r, by rw [rl, r]; rfl⟩
  · omega
theorem far_rest {ts : List Stn} {qs : List Pipe} {σ : Sta} (k : NK ts qs) (so : StOk ts qs σ) (e : ableS ts qs σ none = []) : σ.rs = [] := by
  cases hr : σ.rs with
  | nil => rfl
  | cons b r =>
    exfalso
    obtain ⟨h1, h2⟩ := stn0 k so
    have hs : sigs ts qs σ 0 = [b] := by
      unfold sigs
      rw [h1]
      show ([0].map fun l => (txAt qs σ 0 l).take 1).flatten = _
      simp [txAt, hr]
    have hrow : ∃ w, rowS ts qs σ 0 = some w := by
      unfold rowS
      rw [hs, h1]
      have : valB [b] < (sgAt ts σ 0).rows.length := by rw [h2]; cases b <;> decide
      exact ⟨_, (if_pos (show [b].length = Rd.one.lines.length from rfl)).trans (List.getElem?_eq_getElem this)⟩
    obtain ⟨w, hw⟩ := hrow
    refine able_nil e k.yo.m1 (s := 0) ?_
    unfold canS
    rw [hw]
structure Less (x : List Bool) (σ1 σ2 : Sta) (r1 r2 : List Nat) : Prop where
  cn : ∀ s, r1.count s ≤ r2.count s
  rs : σ2.rs = []
  rn : x.drop (x.length - σ1.rs.length) = σ1.rs
  rl : σ1.rs.length ≤ x.length
  lf : σ1.fl.length = σ2.fl.length
  fl : ∀ i : Nat, ((σ2.fl[i]?).getD []).take ((σ1.fl[i]?).getD []).length = (σ1.fl[i]?).getD []
theorem less_law {ts : List Stn} {qs : List Pipe} {z : Option (List Nat)} {σ0 σ1 σ2 : Sta} {r1 r2 : List Nat} {x : List Bool} (k : NK ts qs) (f1 : FinS ts qs z σ0 r1 σ1) (f2 : FinS ts qs none σ0 r2 σ2) (bd : BdS 6 σ0) (l1 : r1.length ≤ 20000) (l2 : r2.length ≤ 20000) (ph : Phi ts qs σ0 ≤ 20000) (ex : σ0.rs = x) : Less x σ1 σ2 r1 r2 := by
  obtain ⟨n1, _⟩ := f1.run
  obtain ⟨n2, e2⟩ := f2.run
  rw [k.sr] at e2
  have m1 := run_none n1
  obtain ⟨bd1, p1⟩ := m1.bd k bd (by omega)
  obtain ⟨so1, fo1⟩ := m1.okEnd
  obtain ⟨r', σ', f', l'⟩ := fin_ex (z := none) k (Phi ts qs σ1) σ1 _ so1 fo1 bd1 (Nat.le_refl _) (by omega)
  obtain ⟨n', e'⟩ := f'.run
  rw [k.sr] at e'
  obtain ⟨rfl, pm⟩ := RunS.one k (m1.app n') e' n2 e2 bd (by rw [List.length_append]; omega) (by omega)
  obtain ⟨⟨j, g1, g2⟩, g3, g4⟩ := m1.grow k
  obtain ⟨_, g5, g6⟩ := n'.grow k
  rw [ex] at g1 g2
  have gl : σ1.rs.length = x.length - j := by rw [g1, List.length_drop]
  refine ⟨fun s => ?_, far_rest k n2.okEnd.1 e2, ?_, by omega, g5.symm, fun i => ?_⟩
  · rw [← pm.count_eq s, List.count_append]; omega
  · rw [gl, show x.length - (x.length - j) = j by omega]; exact g1.symm
  · obtain ⟨more, e⟩ := g6 i
    rw [e, List.take_left']
    rfl
theorem pr_imp {α β : Type} {R S : α → β → Prop} (h : ∀ a b, R a b → S a b) : ∀ {as : List α} {bs : List β}, Paired R as bs → Paired S as bs
  | _, _, .nil => .nil
  | _, _, .cons r q => .cons (h _ _ r) (pr_imp h q)
theorem cntS_len (ts : List Stn) (r : List Nat) : (cntS ts r).length = ts.length := by unfold cntS; rw [List.length_map, List.length_range]
theorem cntS_at {ts : List Stn} (r : List Nat) {i : Nat} (h : i < ts.length) : (nV (cntS ts r))[i]? = some (.int (r.count i : Nat)) := by
  rw [nV_at (by rw [cntS_len]; exact h)]
  unfold cntS
  simp
theorem cut_from {bs : List Bool} {k : Nat} (h : k ≤ bs.length) : cutS (tx bs) (some (k : Int)) none = tx (bs.drop k) := by
  rw [cut_tx, HT.sIx_none, HT.sIx_nat, Nat.min_eq_left h]
  congr 1
  exact List.take_of_length_le (by rw [List.length_drop]; exact Nat.le_refl _)
theorem txts_lay (bs : List (List Bool)) : (PyData.list (tDs bs)).canLay0 = true := by
  show PyData.canLayAll0 (tDs bs) = true
  exact (lay_txts bs).1
theorem txts_shp (bs : List (List Bool)) : SeqAt.shaped (.list (tDs bs)) = true := by
  unfold SeqAt.shaped
  simp [txts_lay bs, PyData.depth, (lay_txts _).2]
theorem txts_eqv (bs : List (List Bool)) : PyData.eqv (.list (tDs bs)) (.list (tDs bs)) = true := eqv_dec (txts_lay bs)
theorem txts_dp {K : PySem.W.Frag} {H : Hp} {p : Addr} {bs : List (List Bool)} (h : H p = some (.lst (tV bs))) : Dp K H (.ref p) (.list (tDs bs)) := .lst (SqL.of h) (dptxts _)
def spLess (CY C : Addr) : Sp := fun vs H Q _ => ∃ (A : List Addr) (y : Addr) (ph zv : V) (x : List Bool) (ts : List Stn) (qs : List Pipe) (bg : Bg) (z : Option (List Nat)), vs = [.ref y, ph, .str (tx x), zv] ∧ PlanA A H ph ts qs bg ∧ YK CY C H y ts qs ∧ YdBg CY H y bg ∧ SK H zv qs z ∧ srt qs = qs ∧ BegOk ts qs.length bg ∧ x.length ≤ 6 ∧ Phi ts qs (begS bg (exitsOf ts qs) x) ≤ 20000 ∧ ∀ H', Same H H' → Q (.bl true) H'
section
variable {P : Program} {w : World} {K : PySem.W.Frag} {mg : Str → Option Value} {base : Heap} {aS a1 a2 aL aT : Addr} {f : Addr} {fd : FuncData} {C CD CY : Addr} {mc : Value}
abbrev s_law_less_right : Stmt := top 89
abbrev N_law_less_right : List Str := ["_law_made", "_law_plan_here", "_law_text", "_law_room", "_law_near", "_law_far", "_law_rows", "_law_counts_here", "_law_told", "_law_row_here", "_law_few", "_law_many", "_law_begun_now", "_law_whole"]
theorem sc_law_less_right : FnScope N_law_less_right ["_law_made", "_law_plan_here", "_law_text", "_law_room"] (defScope s_law_less_right) := ⟨rfl, rfl, rfl, by decide +kernel, rfl, by decide +kernel, by decide +kernel⟩
theorem ok_law_less_right (F : Fun K "_law_less_right" "_law_less_right" s_law_less_right f fd) (T : Txt K mg aS a1 a2) (c__law_counts : C8.Cal P w K mg base 1 "_law_counts" spCountsL []) (c_end : C8.Cal P w K mg base 6 "end" (spEnd CY C) []) (d_end : C8.Cal P w K mg base 6 "end" (spEnd CY C) [.non]) (c_full_run : C8.Cal P w K mg base 6 "full_run" (spRunF CY C) []) (d_full_run : C8.Cal P w K mg base 6 "full_run" (spRunF CY C) [.non]) (c_flows : C8.Cal P w K mg base 7 "flows" (spFlows CY C) []) (k_flows_0_stream_yard : CalN P w K mg base CX0 7 "flows" (spFlows CY C) 0 ["stream", "yard"] [1, 0] []) : FnOk P w K mg base CX0 8 f fd ["_law_made", "_law_plan_here", "_law_text", "_law_room"] (spLess CY C) := by
  refine F.ok sc_law_less_right (fun vs H Q E h => ?_) (fun cdv A0 outer s0 H vs Q E hr h => ?_)
  · obtain ⟨A, y, ph, zv, x, ts, qs, bg, z, rfl, _⟩ := h
    rfl
  obtain ⟨A, y, ph, zv, x, ts, qs, bg, z, rfl, pl, yk, yb, sk, sr, bo, hx, hphi, q⟩ := h
  obtain ⟨so0, fo0⟩ := beg_ok (x := x) bo sr hx
  have bd0 := beg_bd (ex := exitsOf ts qs) bo hx
  have nk : NK ts qs := ⟨yk.yo, sr, by have := yk.al; rwa [sr] at this⟩
  have t12 := yk.yo.m2
  obtain ⟨r1, σ1, f1, l1⟩ := fin_ex (z := z) nk _ _ 6 so0 fo0 bd0 (Nat.le_refl _) (by omega)
  obtain ⟨r2, σ2, f2, l2⟩ := fin_ex (z := none) nk _ _ 6 so0 fo0 bd0 (Nat.le_refl _) (by omega)
  have ls := less_law nk f1 f2 bd0 (by omega) (by omega) hphi rfl
  refine ⟨_, (pss_cons (ps_par (i := 4) (j := 5) rfl sc_law_less_right.nd rfl rfl (by decide) rfl rfl (pa_cons (C8.pe_c c_end hr (by decide) rfl (pa_cons (pv 0) (pa_cons (pv 2) (pa_cons (pv 3) pa_nil)))) (pa_cons (C8.pe_c d_end hr (by decide) rfl (pa_cons (pv 0) (pa_cons (pv 2) pa_nil))) pa_nil)) rfl)
        (pss_cons (ps_set (i := 6) sc_law_less_right.nd rfl (Or.inl rfl) (pe_lst (pa_cons (C8.pe_c c_full_run hr (by decide) rfl (pa_cons (pv 0) (pa_cons (pv 2) (pa_cons (pv 3) pa_nil)))) (pa_cons (C8.pe_c d_full_run hr (by decide) rfl (pa_cons (pv 0) (pa_cons (pv 2) pa_nil))) pa_nil))))
        (pss_cons (ps_setLc (i := 7) (own := [("_law_row_here", 9)]) rfl sc_law_less_right.nd rfl rfl (sw_true rfl rfl rfl (by decide +kernel)) (kList K rfl (pv 6)) (blkOk_by (N := N_law_less_right) (sc := defScope s_law_less_right) (by decide +kernel)) (fun _ _ _ _ _ => (pg_name (i := 9) sc_law_less_right.nd rfl (Or.inl rfl))) (fun _ _ _ _ _ => pts_nil) (fun _ _ _ _ _ => (C8.pe_c c__law_counts hr (by decide) rfl (pa_cons (pv 1) (pa_cons (pv 9) pa_nil)))))
        (pss_cons (ps_if (PW.pt (pw_or (pt_not (pt_val (pe_callB (kAll K rfl rfl) rfl T.b_all bt_all (pa_cons (pe_lc (own := [("_law_few", 10), ("_law_many", 11)]) rfl sc_law_less_right.nd (pi_zip rfl T.b_zip (pa_cons (pe_ix (kIxL K rfl) (pv 7) pe_int (fun _ _ => rfl)) (pa_cons (pe_ix (kIxL K rfl) (pv 7) pe_int (fun _ _ => rfl)) pa_nil))) (blkOk_by (N := N_law_less_right) (sc := defScope s_law_less_right) (by decide +kernel)) (fun _ _ _ _ _ => (kTupG (n := 2) K rfl rfl (pgs_cons (pg_name (i := 10) sc_law_less_right.nd rfl (Or.inl rfl)) (pgs_cons (pg_name (i := 11) sc_law_less_right.nd rfl (Or.inl rfl)) pgs_nil)))) (fun _ _ _ _ _ => pts_nil) (fun _ _ _ _ _ => (pe_cmpR op_le (pv 10) (pv 11) (nomark _)))) pa_nil)))) (pw_or1 (pt_cmpR op_ne (pe_ix (kIxT K rfl) (pv 5) pe_int (fun _ _ => rfl)) pe_str (nomark _)))))
        (pss_one (ps_ret pe_bl))
        pss_nil)
        (pss_cons (ps_if (pt_not (pt_val (pe_callB (kAll K rfl rfl) rfl T.b_all bt_all (pa_cons (pe_lc (own := [("_law_begun_now", 12), ("_law_whole", 13)]) rfl sc_law_less_right.nd (kZipA K rfl rfl T.b_zip (pa_cons (pe_ix (kIxT K rfl) (pv 4) pe_int (fun _ _ => rfl)) (pa_cons (pe_ix (kIxT K rfl) (pv 5) pe_int (fun _ _ => rfl)) pa_nil))) (blkOk_by (N := N_law_less_right) (sc := defScope s_law_less_right) (by decide +kernel)) (fun _ _ _ _ _ => (kTupG (n := 2) K rfl rfl (pgs_cons (pg_name (i := 12) sc_law_less_right.nd rfl (Or.inl rfl)) (pgs_cons (pg_name (i := 13) sc_law_less_right.nd rfl (Or.inl rfl)) pgs_nil)))) (fun _ _ _ _ _ => pts_nil) (fun _ _ _ _ _ => (pe_cmpR op_eq (pe_slice sl_str (pv 13) po_none (po_some (pe_callB call_len_str rfl T.b_len bt_len (pa_cons (pv 12) pa_nil)))) (pv 12) (nomark _)))) pa_nil))))
        (pss_one (ps_ret pe_bl))
        pss_nil)
        (pss_cons (ps_if (pt_cmpR op_ne (pe_slice sl_str (pv 2) (po_some (pe_op op_sub (pe_callB call_len_str rfl T.b_len bt_len (pa_cons (pv 2) pa_nil)) (pe_callB call_len_str rfl T.b_len bt_len (pa_cons (pe_ix (kIxT K rfl) (pv 4) pe_int (fun _ _ => rfl)) pa_nil)))) po_none) (pe_ix (kIxT K rfl) (pv 4) pe_int (fun _ _ => rfl)) (nomark _))
        (pss_one (ps_ret pe_bl))
        pss_nil)
        (pss_cons (ps_set (i := 8) sc_law_less_right.nd rfl (Or.inl rfl) (C8.pe_c c_flows hr (by decide) rfl (pa_cons (pv 0) (pa_cons (pv 2) pa_nil))))
        (pss_cons (ps_if (pt_cmpR (kNeD K rfl hr.units) (pv 8) (pe_callTy (kListOf K rfl) rfl T.b_list bt_list (pa_cons (pe_ix (kIxT K rfl) (pv 5) pe_int (fun _ _ => rfl)) pa_nil)) (nomark _))
        (pss_one (ps_ret pe_bl))
        pss_nil)
        (pss_cons (ps_expr (kBm K rfl PySem.F.plainAttrs_list PySem.F.slot_list_append PySem.F.type_list_append mt_append (pv 8) (pa_cons pe_non pa_nil)))
        (pss_one (ps_ret (pe_cmpR (kEqD K rfl hr.units) (pe_cN0 k_flows_0_stream_yard hr (by decide) rfl pass0 (pk_cons (pv 2) (pk_cons (pv 0) pk_nil))) (pe_callTy (kListOf K rfl) rfl T.b_list bt_list (pa_cons (pe_ix (kIxT K rfl) (pv 5) pe_int (fun _ _ => rfl)) pa_nil)) (nomark _))))))))))))), ?_⟩
  refine ⟨_, rfl, _, rfl, _, rfl, y, zv, x, σ1, r1, z, ts, qs, bg, rfl, yk, yb, by omega, sk, f1, by omega, fun H1 u s1 su1 => ?_⟩
  refine ⟨_, rfl, _, rfl, y, .non, x, σ2, r2, none, ts, qs, bg, rfl, yk.keep (NL.of s1), yb.nl (NL.of s1), by omega, SK.none, f2, by omega, fun H2 v s2 sv2 => ?_⟩
  refine ⟨_, _, rfl, ?_⟩
  dsimp only
  refine seq_i ?_
  have s02 := s1.trans' s2
  refine ⟨_, rfl, _, rfl, _, rfl, y, zv, x, σ1, r1, z, ts, qs, bg, rfl, yk.keep (NL.of s02), yb.nl (NL.of s02), by omega, sk.keep (Tups.of s02), f1, by omega, fun H3 R1 s3 hR10 hR1 => ?_⟩
  have s03 := s02.trans' s3
  refine ⟨_, rfl, _, rfl, y, .non, x, σ2, r2, none, ts, qs, bg, rfl, yk.keep (NL.of s03), yb.nl (NL.of s03), by omega, SK.none, f2, by omega, fun H4 R2 s4 hR20 hR2 => ⟨sz rfl, fun L hL => ?_⟩⟩
  have k5 := same_new hL (.lst [.ref R1, .ref R2])
  have s05 := (s03.trans' s4).trans' k5
  have hR1' := k5 _ _ (s4 _ _ hR1)
  have hR2' := k5 _ _ hR2
  have su5 := su1.keep (Tups.of (((s2.trans' s3).trans' s4).trans' k5))
  have sv5 := sv2.keep (Tups.of ((s3.trans' s4).trans' k5))
  have hL5 : (upd H4 L (.lst [.ref R1, .ref R2])) L = some (.lst [.ref R1, .ref R2]) := upd_same
  clear s02 s03 k5 hL hR1 hR2 hR10 hR20 s1 s2 s3 s4 su1 sv2
  generalize upd H4 L (.lst [.ref R1, .ref R2]) = H5 at *
  refine gN_i ?_
  dsimp only
  refine seq_i ?_
  refine ⟨_, rfl, _, rfl, ⟨_, SqL.of hL5⟩, fun D hD => lc_it walk_list (fun i H' => Same H5 H' ∧ ∃ ws, H' D = some (.lst ws) ∧ Paired (fun w r => ∃ a, w = V.ref a ∧ a ≠ D ∧ H' a = some (.lst (nV (cntS ts r)))) ws ([r1, r2].take i)) ⟨same_new hD _, [], upd_same, .nil⟩ (fun i H' _ z => SqL.of (z.1 _ _ hL5)) ?_ ?_⟩
  · rintro i xi G1 G2 hi ⟨sm, ws, hd, pw⟩ ⟨rfl, hxi⟩
    have lw := paired_len2 pw
    have key : ∃ r R, xi = .ref R ∧ H5 R = some (.lst (nV r)) ∧ r.length ≤ 20000 ∧ [r1, r2].take (i + 1) = [r1, r2].take i ++ [r] := by
      rcases i with _ | _ | i
      · cases Option.some.inj hxi; exact ⟨r1, R1, rfl, hR1', by omega, rfl⟩
      · cases Option.some.inj hxi; exact ⟨r2, R2, rfl, hR2', by omega, rfl⟩
      · cases hxi
    obtain ⟨r, R, rfl, hR, lr, et⟩ := key
    refine ⟨rfl, tyI ?_⟩
    refine ⟨_, rfl, _, rfl, A, ph, R, ts, qs, bg, r, rfl, pl.kl (KL.of (s05.trans' sm)), by omega, sm _ _ hR, fun G3 N s3 hN0 hN => ?_⟩
    have nND : N ≠ D := fun e => by rw [e, hd] at hN0; cases hN0
    have nDH : H5 D = none := hD
    refine ⟨_, s3 _ _ hd, ?_, same_at (sm.trans' s3) hD, ws ++ [.ref N], upd_same, ?_⟩
    · rw [lw, List.length_take]
      exact Nat.lt_of_le_of_lt (show min i [r1, r2].length ≤ 2 by simp; omega) (by decide)
    · rw [et]
      exact paired_app (pr_imp (fun w r ⟨a, e, n, h⟩ => ⟨a, e, n, (upd_ne n).trans (s3 _ _ h)⟩) pw) (.cons ⟨N, rfl, nND, (upd_ne nND).trans hN⟩ .nil)
  rintro G1 ⟨sm, ws, hd, pw⟩
  cases pw with
  | @cons w1 _ _ _ hw1 pw =>
  cases pw with
  | @cons w2 _ _ _ hw2 pw =>
  cases pw
  obtain ⟨C1, rfl, _, hC1⟩ := hw1
  obtain ⟨C2, rfl, _, hC2⟩ := hw2
  have s0G := s05.trans' sm
  have suG := su5.keep (Tups.of sm)
  have svG := sv5.keep (Tups.of sm)
  clear s05 su5 sv5 hR1' hR2' hL5 hD sm
  refine seq_i ?_
  refine ⟨_, rfl, D, _, _, .ref C1, rfl, rfl, SqL.of hd, L2.atI_nat (j := 0) rfl, _, rfl, D, _, _, .ref C2, rfl, rfl, SqL.of hd, L2.atI_nat (j := 1) rfl, C1, C2, _, _, rfl, SqL.of hC1, SqL.of hC2, fun D2 hD2 => lc_it (walk_zip (n := ts.length) (by rw [nV_len, nV_len, cntS_len, cntS_len, Nat.min_self])) (fun i H' => Same G1 H' ∧ H' D2 = some (.lst (List.replicate i (.bl true)))) ⟨same_new hD2 _, upd_same⟩ (fun i H' _ z => ⟨SqL.of (z.1 _ _ hC1), SqL.of (z.1 _ _ hC2)⟩) ?_ ?_⟩
  · rintro i x H4 H5 hi ⟨sm, hd⟩ ⟨T0, i1, i2, rfl, hT0, rfl, hi1, hi2'⟩
    have e1 := cntS_at r1 hi
    have e2 := cntS_at r2 hi
    cases Option.some.inj (e1.symm.trans hi1)
    cases Option.some.inj (e2.symm.trans hi2')
    have k5 := same_new hT0 (.tup [.int (r1.count i : Nat), .int (r2.count i : Nat)])
    have s5 := sm.trans' k5
    refine ⟨_, _, rfl, SqT.of upd_same, rfl, _, _, rfl, _, _, rfl, rfl, rfl, tyI ⟨_, rfl, _, rfl, _, _, rfl, rfl, ?_⟩⟩
    dsimp only
    rw [decide_eq_true (show ((r1.count i : Nat) : Int) ≤ (r2.count i : Nat) by have := ls.cn i; omega)]
    refine ⟨_, k5 _ _ hd, ?_, same_at s5 hD2, ?_⟩
    · rw [List.length_replicate]
      exact Nat.lt_of_lt_of_le (show i < 100000 by omega) (by decide)
    · rw [upd_same, List.replicate_succ']
  rintro G2 ⟨sm2, hd2⟩
  have lim : ∀ {b : List Bool}, b.length ≤ 100000 → (tx b).length ≤ sizeLine := fun h => Nat.le_trans (Nat.le_of_eq (tx_size _)) (Nat.le_trans h (by decide))
  obtain ⟨pu, ua, ub, uc, rfl, u1, u2, u3, u4⟩ := id suG
  obtain ⟨pv, va, vb, vc, rfl, v1, v2, v3, v4⟩ := id svG
  refine ⟨_, List.replicate ts.length true, rfl, SqL.of (by rw [hd2, List.map_replicate]), ?_⟩
  rw [show (List.replicate ts.length true).all id = true by simp]
  have e2 : tx σ2.rs = Str.ofString "" := by rw [ls.rs]; rfl
  refine ⟨_, rfl, iteF ⟨_, rfl, _, _, _, _, rfl, rfl, SqT.of (sm2 _ _ v1), L2.atI_nat (j := 2) rfl, rfl, _, rfl, iteFd (by rw [e2]; simp) ?_⟩⟩
  refine tNext_i ?_
  dsimp only
  refine seq_i ?_
  have sG2 := s0G.trans' sm2
  have hF1 := sm2 _ _ u4
  have hF2 := sm2 _ _ v4
  refine ⟨_, rfl, _, _, _, _, rfl, rfl, SqT.of (sm2 _ _ u1), L2.atI_nat (j := 3) rfl, _, rfl, _, _, _, _, rfl, rfl, SqT.of (sm2 _ _ v1), L2.atI_nat (j := 3) rfl, _, _, _, _, rfl, .inr ⟨SqT.of hF1, SqT.of hF2, fun D3 hD3 => lc_it (walk_zipT (n := σ1.fl.length) (by rw [tV_len, tV_len, ls.lf, Nat.min_self])) (fun i H' => Same G2 H' ∧ H' D3 = some (.lst (List.replicate i (.bl true)))) ⟨same_new hD3 _, upd_same⟩ (fun i H' _ z => ⟨SqT.of (z.1 _ _ hF1), SqT.of (z.1 _ _ hF2)⟩) ?_ ?_⟩⟩
  · rintro i x H4 H5 hi ⟨sm, hd⟩ ⟨T0, i1, i2, rfl, hT0, rfl, hi1, hi2'⟩
    obtain ⟨g, hg, rfl⟩ := List.getElem?_map_some hi1
    obtain ⟨g', hg', rfl⟩ := List.getElem?_map_some hi2'
    have e := ls.fl i
    rw [hg, hg'] at e
    have e : g'.take g.length = g := e
    have k5 := same_new hT0 (.tup [.str (tx g), .str (tx g')])
    have s5 := sm.trans' k5
    have eb : cutS (tx g') none (some ((tx g).cps.size : Int)) = tx g := by rw [tx_size, cut_to, e]
    refine ⟨_, _, rfl, SqT.of upd_same, rfl, _, _, rfl, _, _, rfl, rfl, rfl, tyI ?_⟩
    have lg := lim ((f1.run).1.okEnd.2 _ (List.mem_of_getElem? hg))
    have lg' := lim ((f2.run).1.okEnd.2 _ (List.mem_of_getElem? hg'))
    refine ⟨_, rfl, _, rfl, _, rfl, lg, _, rfl, _, rfl, lg', _, rfl, rfl, ?_⟩
    have et : (tx g).length = (tx g).cps.size := rfl
    rw [et, eb]
    dsimp only
    rw [decide_eq_true rfl]
    refine ⟨_, k5 _ _ hd, ?_, same_at s5 hD3, ?_⟩
    · rw [List.length_replicate]
      have := lt_len hg
      exact Nat.lt_of_lt_of_le (show i < 100000 by have := (f1.run).1.okEnd.1.lf; have := yk.yo.ex; omega) (by decide)
    · rw [upd_same, List.replicate_succ']
  rintro G3 ⟨sm3, hd3⟩
  refine ⟨_, List.replicate σ1.fl.length true, rfl, SqL.of (by rw [hd3, List.map_replicate]), ?_⟩
  rw [show (List.replicate σ1.fl.length true).all id = true by simp]
  refine ⟨_, rfl, iteF ?_⟩
  refine tNext_i ?_
  dsimp only
  refine seq_i ?_
  have s0G3 := sG2.trans' sm3
  have su3 := suG.keep (Tups.of (sm2.trans' sm3))
  have w1 := sm3 _ _ (sm2 _ _ u1)
  have w2 := sm3 _ _ (sm2 _ _ v1)
  have w4 := sm3 _ _ (sm2 _ _ v4)
  have rl : σ1.rs.length ≤ x.length := ls.rl
  refine ⟨_, rfl, _, rfl, _, rfl, lim (by omega), _, rfl, _, _, _, _, rfl, rfl, SqT.of w1, L2.atI_nat (j := 2) rfl, _, rfl, lim (by omega), _, _, rfl, rfl, _, rfl, _, rfl, lim (by omega), _, rfl, _, _, _, _, rfl, rfl, SqT.of w1, L2.atI_nat (j := 2) rfl, rfl, _, rfl, iteFd ?_ ?_⟩
  · have e : ((tx x).length : Int) - ((tx σ1.rs).length : Int) = ((x.length - σ1.rs.length : Nat) : Int) := by
      have h1 : (tx x).length = x.length := tx_size _
      have h2 : (tx σ1.rs).length = σ1.rs.length := tx_size _
      rw [h1, h2]
      omega
    have er : x.drop (x.length - σ1.rs.length) = σ1.rs := ls.rn
    rw [e, cut_from (by omega), er]
    simp
  refine tNext_i ?_
  dsimp only
  refine seq_i ?_
  refine ⟨_, rfl, _, rfl, y, x, σ2, r2, ts, qs, bg, rfl, yk.keep (NL.of s0G3), yb.nl (NL.of s0G3), by omega, f2, by omega, fun H6 N s6 hN0 hN => ?_⟩
  refine gN_i ?_
  dsimp only
  refine seq_i ?_
  have z2 := s6 _ _ w2
  have z4 := s6 _ _ w4
  refine ⟨_, rfl, _, rfl, _, _, _, _, rfl, rfl, SqT.of z2, L2.atI_nat (j := 3) rfl, _, _, rfl, .inr (SqT.of z4), fun l hl => ?_⟩
  have k7 := same_new hl (.lst (tV σ2.fl))
  refine ⟨_, _, txts_dp (k7 _ _ hN), txts_dp upd_same, txts_shp _, txts_shp _, _, rfl, iteFd (neD (txts_eqv _)) ?_⟩
  refine tNext_i ?_
  dsimp only
  refine seq_i ?_
  have hN7 := k7 _ _ hN
  have z27 := k7 _ _ z2
  have z47 := k7 _ _ z4
  have s67 := s6.trans' k7
  clear k7 hN z2 z4
  generalize upd H6 l (.lst (tV σ2.fl)) = H7 at *
  have lf : σ2.fl.length ≤ 3 := by have := (f2.run).1.okEnd.1.lf; have := yk.yo.ex; omega
  refine ⟨_, rfl, .inl ⟨rfl, _, SqL.of hN7⟩, N, _, _, rfl, rfl, hN7, by rw [tV_len]; exact Nat.lt_of_le_of_lt lf (by decide), ?_⟩
  have sN : Same G3 (upd H7 N (.lst (tV σ2.fl ++ [.non]))) := same_at s67 hN0
  have y2 : (upd H7 N (.lst (tV σ2.fl ++ [.non]))) pv = _ := (upd_ne (fun e => by rw [e, hN7] at z27; cases z27)).trans z27
  have y4 : (upd H7 N (.lst (tV σ2.fl ++ [.non]))) vc = _ := (upd_ne (fun e => by rw [e, hN7] at z47; cases z47)).trans z47
  generalize upd H7 N (.lst (tV σ2.fl ++ [.non])) = H8 at *
  have s08 := s0G3.trans' sN
  dsimp only
  refine tRet_i ?_
  dsimp only
  refine ⟨_, rfl, _, rfl, rfl, y, x, σ2, r2, ts, qs, bg, rfl, yk.keep (NL.of s08), yb.nl (NL.of s08), by omega, f2, by omega, fun H9 N9 s9 hN90 hN9 => ?_⟩
  refine ⟨_, rfl, _, _, _, _, rfl, rfl, SqT.of (s9 _ _ y2), L2.atI_nat (j := 3) rfl, _, _, rfl, .inr (SqT.of (s9 _ _ y4)), fun l hl => ?_⟩
  have k9 := same_new hl (.lst (tV σ2.fl))
  refine ⟨_, _, txts_dp (k9 _ _ hN9), txts_dp upd_same, txts_shp _, txts_shp _, ?_⟩
  rw [txts_eqv]
  exact q _ ((s08.trans' s9).trans' k9)
end
end FY


set_option Elab.async false
set_option linter.all false
set_option maxRecDepth 100000
set_option maxHeartbeats 4000000
namespace FY
open PySem L2 FYR
theorem sumF_ub {f : Nat → Pipe → Nat} {B : Nat} : ∀ (L : List Pipe) (k : Nat), (∀ j p, L[j]? = some p → f (k + j) p ≤ B) → sumF f k L ≤ B * L.length
  | [], _, _ => Nat.zero_le _
  | p :: r, k, h => by
    have h1 : f k p ≤ B := h 0 p rfl
    have h2 := sumF_ub r (k + 1) fun j q hq => by
      have := h (j + 1) q hq
      rwa [show k + (j + 1) = k + 1 + j by omega] at this
    show f k p + sumF f (k + 1) r ≤ B * (r.length + 1)
    rw [Nat.mul_add, Nat.mul_one]
    omega
theorem qs_eight {ts : List Stn} {qs : List Pipe} (yo : YdOk ts qs) (h4 : ts.length ≤ 4) : qs.length ≤ 8 := by
  have h := nd_len (b := [(0, 0), (0, 1), (1, 0), (1, 1), (2, 0), (2, 1), (3, 0), (3, 1)]) yo.ne (fun x hx => by
    obtain ⟨p, hp, rfl⟩ := List.mem_map.mp hx
    obtain ⟨t, ht, h1, h2⟩ := (yo.pp p hp).e
    have h3 := lt_len ht
    have e1 : p.2.2.1 = 0 ∨ p.2.2.1 = 1 ∨ p.2.2.1 = 2 ∨ p.2.2.1 = 3 := by omega
    have e2 : p.2.2.2 = 0 ∨ p.2.2.2 = 1 := by omega
    have e : pe p = (p.2.2.1, p.2.2.2) := rfl
    rw [e]
    rcases e1 with e1 | e1 | e1 | e1 <;> rcases e2 with e2 | e2 <;> rw [e1, e2] <;> decide)
  rw [List.length_map] at h
  exact h
theorem wt4 {n s : Nat} (h : n ≤ 4) : wt n s ≤ 625 := Nat.pow_le_pow_right (n := 5) (by decide) (show n - s ≤ 4 by omega)
theorem wt3 {n s : Nat} (h : n ≤ 4) (hs : 1 ≤ s) : wt n s ≤ 125 := Nat.pow_le_pow_right (n := 5) (by decide) (show n - s ≤ 3 by omega)
theorem phi_small {ts : List Stn} {qs : List Pipe} {bg : Bg} {ex : List (Nat × Nat)} {x : List Bool} (yo : YdOk ts qs) (bo : BegOk ts qs.length bg) (h4 : ts.length ≤ 4) (hx : x.length ≤ 4) : Phi ts qs (begS bg ex x) ≤ 20000 := by
  have h1 : x.length * wt ts.length 0 ≤ 4 * 625 := Nat.mul_le_mul hx (wt4 h4)
  have h2 : sumF (fun j p => ((bg.2[j]?).getD []).length * wt ts.length p.2.2.1) 0 qs ≤ (3 * 125) * qs.length := sumF_ub qs 0 fun j p hp => by
    have hq := yo.pp p (List.mem_of_getElem? hp)
    have l := hq.lt
    refine Nat.mul_le_mul ?_ (wt3 h4 (by omega))
    cases z : bg.2[0 + j]? with
    | none => exact Nat.zero_le _
    | some b => exact bo.cb b (List.mem_of_getElem? z)
  have h3 := qs_eight yo h4
  have h5 : (3 * 125) * qs.length ≤ (3 * 125) * 8 := Nat.mul_le_mul_left _ h3
  show x.length * wt ts.length 0 + sumF (fun j p => ((bg.2[j]?).getD []).length * wt ts.length p.2.2.1) 0 qs ≤ 20000
  omega
def spRt15 : Sp := fun vs H Q _ => ∃ p, vs = [.ref p] ∧ Pot p H ∧ ∀ H', Q (.bl true) H'
section
variable {P : Program} {w : World} {K : PySem.W.Frag} {mg : Str → Option Value} {base : Heap} {aS a1 a2 aL aT : Addr} {f : Addr} {fd : FuncData} {C CD CY : Addr} {mc : Value}
abbrev s_law_right : Stmt := top 90
abbrev N_law_right : List Str := ["_law_pot_here", "_law_plan_here", "_law_made", "_law_text", "_law_room", "_law_pipe"]
theorem sc_law_right : FnScope N_law_right ["_law_pot_here"] (defScope s_law_right) := ⟨rfl, rfl, rfl, by decide +kernel, rfl, by decide +kernel, by decide +kernel⟩
theorem ok_law_right (F : Fun K "_law_right" "_law_right" s_law_right f fd) (T : Txt K mg aS a1 a2) (c__law_draw : C8.Cal P w K mg base 1 "_law_draw" spDraw []) (c__law_plan : C8.Cal P w K mg base 5 "_law_plan" spPlanL []) (c__law_yard : C8.Cal P w K mg base 8 "_law_yard" (spYardL CY C) []) (c__law_stream : C8.Cal P w K mg base 3 "_law_stream" spStream []) (c__law_wires : C8.Cal P w K mg base 1 "_law_wires" spWires []) (c__law_begin : C8.Cal P w K mg base 2 "_law_begin" spBeginL []) (c__law_first_run : C8.Cal P w K mg base 4 "_law_first_run" spFirstL []) (c__law_ends_right : CalG P w K mg base 8 "_law_ends_right" (spEnds CY C)) (c__law_less_right : C8.Cal P w K mg base 8 "_law_less_right" (spLess CY C) []) (eY : EqC P w K mg base 3 CY (YdEq CY C)) : FnG P w K mg base 10 f fd ["_law_pot_here"] spRt15 := by
  refine fnG_of F sc_law_right (fun vs H Q E h => ?_) (fun cdv A0 outer s0 H vs Q E hgd hr h => ?_)
  · obtain ⟨p, rfl, _⟩ := h
    rfl
  obtain ⟨p, rfl, po, q⟩ := h
  refine ⟨_, (pss_cons (ps_set (i := 1) sc_law_right.nd rfl (Or.inl rfl) (C8.pe_c c__law_plan hr (by decide) rfl (pa_cons (pv 0) (pa_cons (pe_op op_add pe_int (C8.pe_c c__law_draw hr (by decide) rfl (pa_cons (pv 0) (pa_cons pe_int pa_nil)))) (pa_cons pe_int pa_nil)))))
        (pss_cons (ps_par (i := 2) (j := 3) rfl sc_law_right.nd rfl rfl (by decide) rfl rfl (pa_cons (C8.pe_c c__law_yard hr (by decide) rfl (pa_cons (pv 1) pa_nil)) (pa_cons (C8.pe_c c__law_stream hr (by decide) rfl (pa_cons (pv 0) (pa_cons pe_int pa_nil))) pa_nil)) rfl)
        (pss_cons (ps_set (i := 4) sc_law_right.nd rfl (Or.inl rfl) (pe_callTy (kTupOf K rfl) rfl T.b_tuple bt_tuple (pa_cons (pe_lc (own := [("_law_pipe", 5)]) rfl sc_law_right.nd (kList K rfl (pe_dget (hu1 hr) (pv 1) pe_str (fun _ _ => rfl))) (blkOk_by (N := N_law_right) (sc := defScope s_law_right) (by decide +kernel)) (fun _ _ _ _ _ => (pg_name (i := 5) sc_law_right.nd rfl (Or.inl rfl))) (fun _ _ _ _ _ => pts_nil) (fun _ _ _ _ _ => (pe_op op_add pe_int (C8.pe_c c__law_draw hr (by decide) rfl (pa_cons (pv 0) (pa_cons pe_int pa_nil)))))) pa_nil)))
        (pss_cons (ps_if (pt_cmpR op_gt (pe_callB (kLen K rfl) rfl T.b_len bt_len (pa_cons (pe_ix (kIxT K rfl) (C8.pe_c c__law_first_run hr (by decide) rfl (pa_cons (pv 1) (pa_cons (C8.pe_c c__law_wires hr (by decide) rfl (pa_cons (pv 1) pa_nil)) (pa_cons (C8.pe_c c__law_begin hr (by decide) rfl (pa_cons (pv 1) (pa_cons (pv 3) pa_nil))) (pa_cons pe_non pa_nil))))) pe_int (fun _ _ => rfl)) pa_nil)) pe_int (nomark _))
        (pss_one (ps_ret pe_bl))
        pss_nil)
        (pss_cons (ps_if (PW.pt (pw_or (pt_not (pt_val (pe_cG c__law_ends_right hgd hr (by decide) rfl (pa_cons (pv 0) (pa_cons (pv 2) (pa_cons (pv 1) (pa_cons (pv 3) (pa_cons pe_non pa_nil)))))))) (pw_or1 (pt_not (pt_val (pe_cG c__law_ends_right hgd hr (by decide) rfl (pa_cons (pv 0) (pa_cons (pv 2) (pa_cons (pv 1) (pa_cons (pv 3) (pa_cons (pv 4) pa_nil)))))))))))
        (pss_one (ps_ret pe_bl))
        pss_nil)
        (pss_one (ps_ret (pe_and (C8.pe_c c__law_less_right hr (by decide) rfl (pa_cons (pv 2) (pa_cons (pv 1) (pa_cons (pv 3) (pa_cons (pv 4) pa_nil))))) (pe_one (pe_cmpR (kEqO eY hr (by decide)) (pv 2) (C8.pe_c c__law_yard hr (by decide) rfl (pa_cons (pv 1) pa_nil)) (nomark _))))))))))), ?_⟩
  refine ⟨_, rfl, _, rfl, p, _, rfl, po, by decide, by decide, fun d H1 d0 d1 k1 p1 => ⟨_, _, rfl, rfl, ?_⟩⟩
  obtain ⟨many, hm, em1, em4⟩ : ∃ many : Nat, 1 + d = (many : Int) ∧ 1 ≤ many ∧ many ≤ 4 := ⟨(1 + d).toNat, (Int.toNat_of_nonneg (by omega)).symm, by omega, by omega⟩
  dsimp only
  rw [hm]
  refine ⟨p, many, 2, rfl, p1, em1, by omega, by omega, by omega, fun ph ts qs bg H2 pl2 yo bo sr lts k2 p2 => ?_⟩
  have nn2 : ∀ {H' : Hp}, Pot p H' → ∀ a ∈ [p], H' a ≠ none := fun po a ha => by rw [List.mem_singleton.mp ha]; obtain ⟨c, d, h, _⟩ := po; rw [h]; simp
  refine ⟨_, rfl, [p], ph, ts, qs, bg, rfl, pl2, yo, bo, fun H3 y s3 ya3 yb3 => ?_⟩
  refine ⟨_, rfl, p, 4, rfl, p2.same s3, by decide, by decide, fun x H4 hx k4 p4 => ?_⟩
  refine ⟨_, _, rfl, ?_⟩
  have hx4 : x.length ≤ 4 := by omega
  have pl3 := pl2.kl (KL.of s3)
  have yk3 : YK CY C H3 y ts qs := ⟨ya3, yo, all_in yo⟩
  have kl4 := kl_kp (p2.same s3) k4 (A := [p]) (List.mem_singleton.mpr rfl)
  have pl4 := pl3.kl kl4
  have yk4 := yk3.keep kl4.nl
  have yb4 := yb3.nl kl4.nl
  clear k1 p1 k2 p2 po pl2 pl3 ya3 yk3 yb3 s3 kl4 k4
  dsimp only
  refine seq_i ?_
  have pl4' := pl4
  obtain ⟨m, Lf, M, d', us, ws, rfl, hm', nF, nM, hF, pF, hM, pM, hb⟩ := pl4
  have lws := paired_len2 pM
  have mp := yo.mp
  have nMp : M ≠ p := fun z => nM (by rw [z]; exact List.mem_singleton.mpr rfl)
  refine ⟨_, rfl, m, .ref M, rfl, gP hm', _, rfl, ⟨_, SqL.of hM⟩, fun D hD => lc_it walk_list (fun i H' => ∃ zs : List Nat, zs.length = i ∧ (∀ z ∈ zs, 1 ≤ z ∧ z ≤ 3) ∧ H' D = some (.lst (nV zs)) ∧ Kp p H4 H' ∧ Pot p H') ⟨[], rfl, by simp, upd_same, kp_new hD _, p4.same (same_new hD _)⟩ (fun i H' _ z => by obtain ⟨_, _, _, _, z, _⟩ := z; exact SqL.of (z _ _ nMp hM)) ?_ ?_⟩
  · rintro i x H6 H7 hi ⟨zs, hz, h3, hd, kk, pp⟩ ⟨rfl, hx⟩
    refine ⟨rfl, tyI ⟨_, rfl, p, _, rfl, pp, by decide, by decide, fun e H8 e0 e1 k8 p8 => ⟨_, _, rfl, rfl, ?_⟩⟩⟩
    have ee : 1 + e = ((1 + e).toNat : Int) := (Int.toNat_of_nonneg (by omega)).symm
    refine ⟨_, k8 _ _ (p4.ne hD) hd, ?_, zs ++ [(1 + e).toNat], by simp [hz], fun z hz' => ?_, ?_, kp_at (kk.trans k8) hD, pot_at p8 (p4.ne hD)⟩
    · rw [nV_len]
      exact Nat.lt_of_lt_of_le (show zs.length < 100000 by omega) (by decide)
    · rcases List.mem_append.mp hz' with hz' | hz'
      · exact h3 z hz'
      · rw [List.mem_singleton.mp hz']; omega
    · rw [upd_same]
      unfold nV
      rw [List.map_append, List.map_singleton, ← ee]
  rintro H6 ⟨zs, hz, h3, hd, kk, pp⟩
  refine ⟨_, _, rfl, .inl ⟨SqL.of hd, fun g hg => ?_⟩⟩
  have k7 := same_new hg (.tup (nV zs))
  have po7 := pp.same k7
  have kl7 := kl_kp p4 (kk.trans (Kp.of k7)) (A := [p]) (List.mem_singleton.mpr rfl)
  have pl7 := pl4'.kl kl7
  have yk7 := yk4.keep kl7.nl
  have yb7 := yb4.nl kl7.nl
  have sk7 : SK (upd H6 g (.tup (nV zs))) (.ref g) qs (some zs) := ⟨⟨g, rfl, upd_same⟩, by show zs.length = (srt qs).length; rw [sr, hz, lws], h3⟩
  have hphi : Phi ts qs (begS bg (exitsOf ts qs) x) ≤ 20000 := phi_small yo bo (by omega) hx4
  clear pl4' yk4 yb4 hm' nF nM hF pF hM pM hb nMp hd kk pp hg k7 kl7 p4 hD
  generalize upd H6 g (.tup (nV zs)) = H7 at *
  have nn7 := nn2 po7
  obtain ⟨so0, fo0⟩ := beg_ok (x := x) bo sr (by omega)
  refine gN_i ?_
  dsimp only
  refine seq_i ?_
  refine ⟨_, rfl, _, rfl, [p], .ref m, ts, qs, bg, rfl, pl7, yo, nn7, fun H8 wv s8 wi8 => ?_⟩
  refine ⟨_, rfl, _, rfl, [p], .ref m, x, ts, qs, bg, rfl, pl7.kl (KL.of s8), yo, same_nn s8 nn7, fun H9 v s9 sv => ?_⟩
  have s79 := s8.trans' s9
  refine ⟨[p], .ref m, wv, v, .non, ts, qs, bg, none, _, 6, rfl, ⟨⟨pl7.kl (KL.of s79), wi8.kl (KL.of s9), yo, sr⟩, sv, so0, fo0, beg_bd bo (by omega), rfl, trivial, by omega⟩, fun HA pA L u run σ' sA hpA hL0 hL su fin lr => ?_⟩
  refine ⟨_, _, _, _, rfl, rfl, SqT.of hpA, L2.atI_nat (j := 0) rfl, _, _, rfl, .inl (SqL.of hL), _, _, rfl, rfl, _, rfl, ?_⟩
  rw [nV_len]
  have s7A := s79.trans' sA
  by_cases h20 : 20 < run.length
  · refine iteTd (by simp; omega) (tRet_i ?_)
    exact q _
  refine iteFd (by simp; omega) ?_
  refine tNext_i ?_
  dsimp only
  refine seq_i ?_
  have poA := po7.same s7A
  have plA := pl7.kl (KL.of s7A)
  have ykA := yk7.keep (NL.of s7A)
  have ybA := yb7.nl (NL.of s7A)
  have skA := sk7.keep (Tups.of s7A)
  clear po7 pl7 yk7 yb7 sk7 nn7 s7A s79 sA hpA hL0 hL su s8 s9 wi8 sv
  refine ⟨_, rfl, _, rfl, _, rfl, _, rfl, [p], p, y, .ref m, .non, x, ts, qs, bg, none, rfl, poA, List.mem_singleton.mpr rfl, nn2 poA, plA, ykA, ybA, SK.none, sr, bo, by omega, hphi, fun HB kB pB => ⟨_, rfl, iteF ?_⟩⟩
  have klB := kl_kp poA kB (A := [p]) (List.mem_singleton.mpr rfl)
  have plB := plA.kl klB
  have ykB := ykA.keep klB.nl
  have ybB := ybA.nl klB.nl
  have skB := skA.keep klB.tups
  refine ⟨_, rfl, _, rfl, _, rfl, _, rfl, _, rfl, [p], p, y, .ref m, .ref g, x, ts, qs, bg, some zs, rfl, pB, List.mem_singleton.mpr rfl, nn2 pB, plB, ykB, ybB, skB, sr, bo, by omega, hphi, fun HC kC pC => ⟨_, rfl, iteF ?_⟩⟩
  refine tNext_i ?_
  dsimp only
  refine tRet_i ?_
  dsimp only
  have klC := kl_kp pB kC (A := [p]) (List.mem_singleton.mpr rfl)
  have plC := plB.kl klC
  have ykC := ykB.keep klC.nl
  have ybC := ybB.nl klC.nl
  have skC := skB.keep klC.tups
  refine ⟨_, rfl, _, rfl, _, rfl, _, rfl, [p], y, .ref m, .ref g, x, ts, qs, bg, some zs, rfl, plC, ykC, ybC, skC, sr, bo, by omega, hphi, fun HD sD => ⟨_, rfl, iteT ?_⟩⟩
  refine ⟨_, rfl, _, rfl, [p], .ref m, ts, qs, bg, rfl, plC.kl (KL.of sD), yo, bo, fun HE y2 sE yaE ybE => ?_⟩
  have sDE := sD.trans' sE
  have yaC := (ykC.keep (NL.of sDE)).ya
  have ybC' := ybC.nl (NL.of sDE)
  obtain ⟨dx, _, _, _, _, _, _, hy, _⟩ := yaC.ob
  obtain ⟨dx2, _, _, _, _, _, _, hy2, _⟩ := yaE.ob
  exact ⟨⟨y, y2, dx, dx2, _, _, rfl, rfl, hy, hy2, ts, qs, bg, yaC, yaE, ybC', ybE, yo⟩, fun H' _ => q _⟩
def spLaw15 (K : PySem.W.Frag) : Sp := fun vs H Q _ => ∃ (a : Addr) (ns : List Int), vs = [.ref a] ∧ SqL K H a (ns.map V.int) ∧ ∀ H', Q (.bl true) H'
abbrev s_law : Stmt := top 91
abbrev N_law : List Str := ["_law_script"]
theorem sc_law : FnScope N_law ["_law_script"] (defScope s_law) := ⟨rfl, rfl, rfl, by decide +kernel, rfl, by decide +kernel, by decide +kernel⟩
theorem ok_law (F : Fun K "law" "law" s_law f fd) (c__law_pot : C8.Cal P w K mg base 1 "_law_pot" (spPot K) []) (c__law_right : CalG P w K mg base 10 "_law_right" spRt15) : FnG P w K mg base 11 f fd ["_law_script"] (spLaw15 K) := by
  refine fnG_of F sc_law (fun vs H Q E h => ?_) (fun cdv A outer s0 H vs Q E hgd hr h => ?_)
  · obtain ⟨a, ns, rfl, _⟩ := h
    rfl
  obtain ⟨a, ns, rfl, hS, q⟩ := h
  refine ⟨_, (pss_one (ps_ret (pe_cG c__law_right hgd hr (by decide) rfl (pa_cons (C8.pe_c c__law_pot hr (by decide) rfl (pa_cons (pv 0) (pa_cons pe_int pa_nil))) pa_nil)))), ?_⟩
  exact ⟨_, rfl, a, ns, 0, rfl, hS, by decide, by decide, fun H1 p s1 hp po => ⟨p, rfl, po, q⟩⟩
end
end FY


set_option Elab.async false
set_option linter.all false
set_option maxRecDepth 100000
set_option maxHeartbeats 0
namespace FY
open PySem L2 FYR
theorem all_mk {P : Program} {w : World} {K : PySem.W.Frag} {mg : Str → Option Value} {base : Heap} {aS a1 a2 aL : Addr} {mc : Value}
    {CY : Addr}
    {C : Addr}
    {f_is_text : Addr} {fd_is_text : FuncData}
    {f_is_text_of : Addr} {fd_is_text_of : FuncData}
    {f_want_stream : Addr} {fd_want_stream : FuncData}
    {f_law_draw : Addr} {fd_law_draw : FuncData}
    {f_law_pick : Addr} {fd_law_pick : FuncData}
    {f_law_pot : Addr} {fd_law_pot : FuncData}
    {f_law_stream : Addr} {fd_law_stream : FuncData}
    {f_is_integer : Addr} {fd_is_integer : FuncData}
    {f_is_count : Addr} {fd_is_count : FuncData}
    {f_is_below : Addr} {fd_is_below : FuncData}
    {f_is_list : Addr} {fd_is_list : FuncData}
    {f_is_row : Addr} {fd_is_row : FuncData}
    {f_are_read : Addr} {fd_are_read : FuncData}
    {f_is_standing_told : Addr} {fd_is_standing_told : FuncData}
    {f_Station_init : Addr} {fd_Station_init : FuncData}
    {f_Station_eq : Addr} {fd_Station_eq : FuncData}
    {f_want_stations : Addr} {fd_want_stations : FuncData}
    {f_is_pipe : Addr} {fd_is_pipe : FuncData}
    {f_want_pipes : Addr} {fd_want_pipes : FuncData}
    {f_free_lines : Addr} {fd_free_lines : FuncData}
    {f_Station_len : Addr} {fd_Station_len : FuncData}
    {f_Yard_len0 : Addr} {fd_Yard_len0 : FuncData}
    {f_is_begin : Addr} {fd_is_begin : FuncData}
    {f_Yard_init : Addr} {fd_Yard_init : FuncData}
    {f_Yard_len : Addr} {fd_Yard_len : FuncData}
    {f_text_at : Addr} {fd_text_at : FuncData}
    {f_place_of : Addr} {fd_place_of : FuncData}
    {f_begun : Addr} {fd_begun : FuncData}
    {f_beat_row : Addr} {fd_beat_row : FuncData}
    {f_has_room : Addr} {fd_has_room : FuncData}
    {f_is_possible : Addr} {fd_is_possible : FuncData}
    {f_possible : Addr} {fd_possible : FuncData}
    {f_after_beat : Addr} {fd_after_beat : FuncData}
    {f_are_sizes : Addr} {fd_are_sizes : FuncData}
    {f_want_sizes : Addr} {fd_want_sizes : FuncData}
    {f_is_state : Addr} {fd_is_state : FuncData}
    {f_want_state : Addr} {fd_want_state : FuncData}
    {f_can_be_done : Addr} {fd_can_be_done : FuncData}
    {f_is_listT : Addr} {fd_is_listT : FuncData}
    {f_fault_ofL : Addr} {fd_fault_ofL : FuncData}
    {f_fault_ofT : Addr} {fd_fault_ofT : FuncData}
    {f_fault_of : Addr} {fd_fault_of : FuncData}
    {f_behind_run : Addr} {fd_behind_run : FuncData}
    {f_is_run : Addr} {fd_is_run : FuncData}
    {f_state_behind : Addr} {fd_state_behind : FuncData}
    {f_is_full : Addr} {fd_is_full : FuncData}
    {f_finished : Addr} {fd_finished : FuncData}
    {f_full_run : Addr} {fd_full_run : FuncData}
    {f_end : Addr} {fd_end : FuncData}
    {f_flows : Addr} {fd_flows : FuncData}
    {f_law_row : Addr} {fd_law_row : FuncData}
    {f_law_station : Addr} {fd_law_station : FuncData}
    {f_law_plan : Addr} {fd_law_plan : FuncData}
    {f_law_yard : Addr} {fd_law_yard : FuncData}
    {f_law_wires : Addr} {fd_law_wires : FuncData}
    {f_law_begin : Addr} {fd_law_begin : FuncData}
    {f_law_row_at : Addr} {fd_law_row_at : FuncData}
    {f_law_can : Addr} {fd_law_can : FuncData}
    {f_law_able : Addr} {fd_law_able : FuncData}
    {f_law_behind : Addr} {fd_law_behind : FuncData}
    {f_law_first_run : Addr} {fd_law_first_run : FuncData}
    {f_law_drawn_run : Addr} {fd_law_drawn_run : FuncData}
    {f_law_counts : Addr} {fd_law_counts : FuncData}
    {f_law_states : Addr} {fd_law_states : FuncData}
    {f_fault_ofN : Addr} {fd_fault_ofN : FuncData}
    {f_is_runN : Addr} {fd_is_runN : FuncData}
    {f_Yard_eq : Addr} {fd_Yard_eq : FuncData}
    {f_law_ends_right : Addr} {fd_law_ends_right : FuncData}
    {f_law_less_right : Addr} {fd_law_less_right : FuncData}
    {f_law_right : Addr} {fd_law_right : FuncData}
    {f_law : Addr} {fd_law : FuncData}
    (T : Txt K mg aS a1 a2) (L : Lin K w mg aL) (LT : LinT K aL) (S : StC K mg C) (Y : YdF K CY) (Y0 : YdC K mg CY mc) (IC : IsaC K C) (ICY : IsaC K CY) (neC : PySem.W.findIn K (.ref (C)) "__ne__" = some (some (.builtin "object.__ne__"))) (neCY : PySem.W.findIn K (.ref (CY)) "__ne__" = some (some (.builtin "object.__ne__")))
    (F_is_text : Fun K "is_text" "is_text" s_is_text f_is_text fd_is_text)
    (m_is_text : mg "is_text" = some (.ref f_is_text))
    (F_is_text_of : Fun K "is_text_of" "is_text_of" s_is_text_of f_is_text_of fd_is_text_of)
    (m_is_text_of : mg "is_text_of" = some (.ref f_is_text_of))
    (F_want_stream : Fun K "want_stream" "want_stream" s_want_stream f_want_stream fd_want_stream)
    (m_want_stream : mg "want_stream" = some (.ref f_want_stream))
    (F_law_draw : Fun K "_law_draw" "_law_draw" s_law_draw f_law_draw fd_law_draw)
    (m_law_draw : mg "_law_draw" = some (.ref f_law_draw))
    (F_law_pick : Fun K "_law_pick" "_law_pick" s_law_pick f_law_pick fd_law_pick)
    (m_law_pick : mg "_law_pick" = some (.ref f_law_pick))
    (F_law_pot : Fun K "_law_pot" "_law_pot" s_law_pot f_law_pot fd_law_pot)
    (m_law_pot : mg "_law_pot" = some (.ref f_law_pot))
    (F_law_stream : Fun K "_law_stream" "_law_stream" s_law_stream f_law_stream fd_law_stream)
    (m_law_stream : mg "_law_stream" = some (.ref f_law_stream))
    (F_is_integer : Fun K "is_integer" "is_integer" s_is_integer f_is_integer fd_is_integer)
    (m_is_integer : mg "is_integer" = some (.ref f_is_integer))
    (F_is_count : Fun K "is_count" "is_count" s_is_count f_is_count fd_is_count)
    (m_is_count : mg "is_count" = some (.ref f_is_count))
    (F_is_below : Fun K "is_below" "is_below" s_is_below f_is_below fd_is_below)
    (m_is_below : mg "is_below" = some (.ref f_is_below))
    (F_is_list : Fun K "is_list" "is_list" s_is_list f_is_list fd_is_list)
    (m_is_list : mg "is_list" = some (.ref f_is_list))
    (F_is_row : Fun K "is_row" "is_row" s_is_row f_is_row fd_is_row)
    (m_is_row : mg "is_row" = some (.ref f_is_row))
    (F_are_read : Fun K "are_read" "are_read" s_are_read f_are_read fd_are_read)
    (m_are_read : mg "are_read" = some (.ref f_are_read))
    (F_is_standing_told : Fun K "is_standing_told" "is_standing_told" s_is_standing_told f_is_standing_told fd_is_standing_told)
    (m_is_standing_told : mg "is_standing_told" = some (.ref f_is_standing_told))
    (F_Station_init : Fun K "__init__" "Station.__init__" s_Station___init__ f_Station_init fd_Station_init)
    (mk_Station_init' : Mk K C f_Station_init)
    (F_Station_eq : Fun K "__eq__" "Station.__eq__" s_Station___eq__ f_Station_eq fd_Station_eq)
    (me_Station_eq : Meth K C "__eq__" f_Station_eq)
    (F_want_stations : Fun K "want_stations" "want_stations" s_want_stations f_want_stations fd_want_stations)
    (m_want_stations : mg "want_stations" = some (.ref f_want_stations))
    (F_is_pipe : Fun K "is_pipe" "is_pipe" s_is_pipe f_is_pipe fd_is_pipe)
    (m_is_pipe : mg "is_pipe" = some (.ref f_is_pipe))
    (F_want_pipes : Fun K "want_pipes" "want_pipes" s_want_pipes f_want_pipes fd_want_pipes)
    (m_want_pipes : mg "want_pipes" = some (.ref f_want_pipes))
    (F_free_lines : Fun K "free_lines" "free_lines" s_free_lines f_free_lines fd_free_lines)
    (m_free_lines : mg "free_lines" = some (.ref f_free_lines))
    (F_Station_len : Fun K "__len__" "Station.__len__" s_Station___len__ f_Station_len fd_Station_len)
    (me_Station_len : Meth K C "__len__" f_Station_len)
    (F_Yard_len0 : Fun K "__len__" "Yard.__len__" s_Yard___len__ f_Yard_len0 fd_Yard_len0)
    (me_Yard_len0 : Meth K CY "__len__" f_Yard_len0)
    (F_is_begin : Fun K "is_begin" "is_begin" s_is_begin f_is_begin fd_is_begin)
    (m_is_begin : mg "is_begin" = some (.ref f_is_begin))
    (F_Yard_init : FunD K "__init__" "Yard.__init__" (defArgs s_Yard___init__) (defBody s_Yard___init__) (defScope s_Yard___init__) [.non] [] f_Yard_init fd_Yard_init)
    (mk_Yard_init' : Mk K CY f_Yard_init)
    (F_Yard_len : Fun K "__len__" "Yard.__len__" s_Yard___len__ f_Yard_len fd_Yard_len)
    (me_Yard_len : Meth K CY "__len__" f_Yard_len)
    (F_text_at : Fun K "text_at" "text_at" s_text_at f_text_at fd_text_at)
    (m_text_at : mg "text_at" = some (.ref f_text_at))
    (F_place_of : Fun K "place_of" "place_of" s_place_of f_place_of fd_place_of)
    (m_place_of : mg "place_of" = some (.ref f_place_of))
    (F_begun : Fun K "begun" "begun" s_begun f_begun fd_begun)
    (m_begun : mg "begun" = some (.ref f_begun))
    (F_beat_row : Fun K "beat_row" "beat_row" s_beat_row f_beat_row fd_beat_row)
    (m_beat_row : mg "beat_row" = some (.ref f_beat_row))
    (F_has_room : Fun K "has_room" "has_room" s_has_room f_has_room fd_has_room)
    (m_has_room : mg "has_room" = some (.ref f_has_room))
    (F_is_possible : Fun K "is_possible" "is_possible" s_is_possible f_is_possible fd_is_possible)
    (m_is_possible : mg "is_possible" = some (.ref f_is_possible))
    (F_possible : Fun K "possible" "possible" s_possible f_possible fd_possible)
    (m_possible : mg "possible" = some (.ref f_possible))
    (F_after_beat : Fun K "after_beat" "after_beat" s_after_beat f_after_beat fd_after_beat)
    (m_after_beat : mg "after_beat" = some (.ref f_after_beat))
    (F_are_sizes : Fun K "are_sizes" "are_sizes" s_are_sizes f_are_sizes fd_are_sizes)
    (m_are_sizes : mg "are_sizes" = some (.ref f_are_sizes))
    (F_want_sizes : Fun K "want_sizes" "want_sizes" s_want_sizes f_want_sizes fd_want_sizes)
    (m_want_sizes : mg "want_sizes" = some (.ref f_want_sizes))
    (F_is_state : Fun K "is_state" "is_state" s_is_state f_is_state fd_is_state)
    (m_is_state : mg "is_state" = some (.ref f_is_state))
    (F_want_state : Fun K "want_state" "want_state" s_want_state f_want_state fd_want_state)
    (m_want_state : mg "want_state" = some (.ref f_want_state))
    (F_can_be_done : FunD K "can_be_done" "can_be_done" (defArgs s_can_be_done) (defBody s_can_be_done) (defScope s_can_be_done) [.non] [] f_can_be_done fd_can_be_done)
    (m_can_be_done : mg "can_be_done" = some (.ref f_can_be_done))
    (F_is_listT : Fun K "is_list" "is_list" s_is_list f_is_listT fd_is_listT)
    (m_is_listT : mg "is_list" = some (.ref f_is_listT))
    (F_fault_ofL : Fun K "fault_of" "fault_of" s_fault_of f_fault_ofL fd_fault_ofL)
    (m_fault_ofL : mg "fault_of" = some (.ref f_fault_ofL))
    (F_fault_ofT : Fun K "fault_of" "fault_of" s_fault_of f_fault_ofT fd_fault_ofT)
    (m_fault_ofT : mg "fault_of" = some (.ref f_fault_ofT))
    (F_fault_of : Fun K "fault_of" "fault_of" s_fault_of f_fault_of fd_fault_of)
    (m_fault_of : mg "fault_of" = some (.ref f_fault_of))
    (F_behind_run : Fun K "behind_run" "behind_run" s_behind_run f_behind_run fd_behind_run)
    (m_behind_run : mg "behind_run" = some (.ref f_behind_run))
    (F_is_run : FunD K "is_run" "is_run" (defArgs s_is_run) (defBody s_is_run) (defScope s_is_run) [.non] [] f_is_run fd_is_run)
    (m_is_run : mg "is_run" = some (.ref f_is_run))
    (F_state_behind : FunD K "state_behind" "state_behind" (defArgs s_state_behind) (defBody s_state_behind) (defScope s_state_behind) [.non] [] f_state_behind fd_state_behind)
    (m_state_behind : mg "state_behind" = some (.ref f_state_behind))
    (F_is_full : FunD K "is_full" "is_full" (defArgs s_is_full) (defBody s_is_full) (defScope s_is_full) [.non] [] f_is_full fd_is_full)
    (m_is_full : mg "is_full" = some (.ref f_is_full))
    (F_finished : FunD K "finished" "finished" (defArgs s_finished) (defBody s_finished) (defScope s_finished) [.int (20000 : Nat)] [] f_finished fd_finished)
    (m_finished : mg "finished" = some (.ref f_finished))
    (F_full_run : FunD K "full_run" "full_run" (defArgs s_full_run) (defBody s_full_run) (defScope s_full_run) [.non] [] f_full_run fd_full_run)
    (m_full_run : mg "full_run" = some (.ref f_full_run))
    (F_end : FunD K "end" "end" (defArgs s_end) (defBody s_end) (defScope s_end) [.non] [] f_end fd_end)
    (m_end : mg "end" = some (.ref f_end))
    (F_flows : Fun K "flows" "flows" s_flows f_flows fd_flows)
    (m_flows : mg "flows" = some (.ref f_flows))
    (F_law_row : Fun K "_law_row" "_law_row" s_law_row f_law_row fd_law_row)
    (m_law_row : mg "_law_row" = some (.ref f_law_row))
    (F_law_station : Fun K "_law_station" "_law_station" s_law_station f_law_station fd_law_station)
    (m_law_station : mg "_law_station" = some (.ref f_law_station))
    (F_law_plan : Fun K "_law_plan" "_law_plan" s_law_plan f_law_plan fd_law_plan)
    (m_law_plan : mg "_law_plan" = some (.ref f_law_plan))
    (F_law_yard : Fun K "_law_yard" "_law_yard" s_law_yard f_law_yard fd_law_yard)
    (m_law_yard : mg "_law_yard" = some (.ref f_law_yard))
    (F_law_wires : Fun K "_law_wires" "_law_wires" s_law_wires f_law_wires fd_law_wires)
    (m_law_wires : mg "_law_wires" = some (.ref f_law_wires))
    (F_law_begin : Fun K "_law_begin" "_law_begin" s_law_begin f_law_begin fd_law_begin)
    (m_law_begin : mg "_law_begin" = some (.ref f_law_begin))
    (F_law_row_at : Fun K "_law_row_at" "_law_row_at" s_law_row_at f_law_row_at fd_law_row_at)
    (m_law_row_at : mg "_law_row_at" = some (.ref f_law_row_at))
    (F_law_can : Fun K "_law_can" "_law_can" s_law_can f_law_can fd_law_can)
    (m_law_can : mg "_law_can" = some (.ref f_law_can))
    (F_law_able : Fun K "_law_able" "_law_able" s_law_able f_law_able fd_law_able)
    (m_law_able : mg "_law_able" = some (.ref f_law_able))
    (F_law_behind : Fun K "_law_behind" "_law_behind" s_law_behind f_law_behind fd_law_behind)
    (m_law_behind : mg "_law_behind" = some (.ref f_law_behind))
    (F_law_first_run : Fun K "_law_first_run" "_law_first_run" s_law_first_run f_law_first_run fd_law_first_run)
    (m_law_first_run : mg "_law_first_run" = some (.ref f_law_first_run))
    (F_law_drawn_run : Fun K "_law_drawn_run" "_law_drawn_run" s_law_drawn_run f_law_drawn_run fd_law_drawn_run)
    (m_law_drawn_run : mg "_law_drawn_run" = some (.ref f_law_drawn_run))
    (F_law_counts : Fun K "_law_counts" "_law_counts" s_law_counts f_law_counts fd_law_counts)
    (m_law_counts : mg "_law_counts" = some (.ref f_law_counts))
    (F_law_states : Fun K "_law_states" "_law_states" s_law_states f_law_states fd_law_states)
    (m_law_states : mg "_law_states" = some (.ref f_law_states))
    (F_fault_ofN : Fun K "fault_of" "fault_of" s_fault_of f_fault_ofN fd_fault_ofN)
    (m_fault_ofN : mg "fault_of" = some (.ref f_fault_ofN))
    (F_is_runN : FunD K "is_run" "is_run" (defArgs s_is_run) (defBody s_is_run) (defScope s_is_run) [.non] [] f_is_runN fd_is_runN)
    (m_is_runN : mg "is_run" = some (.ref f_is_runN))
    (F_Yard_eq : Fun K "__eq__" "Yard.__eq__" s_Yard___eq__ f_Yard_eq fd_Yard_eq)
    (me_Yard_eq : Meth K CY "__eq__" f_Yard_eq)
    (F_law_ends_right : Fun K "_law_ends_right" "_law_ends_right" s_law_ends_right f_law_ends_right fd_law_ends_right)
    (m_law_ends_right : mg "_law_ends_right" = some (.ref f_law_ends_right))
    (F_law_less_right : Fun K "_law_less_right" "_law_less_right" s_law_less_right f_law_less_right fd_law_less_right)
    (m_law_less_right : mg "_law_less_right" = some (.ref f_law_less_right))
    (F_law_right : Fun K "_law_right" "_law_right" s_law_right f_law_right fd_law_right)
    (m_law_right : mg "_law_right" = some (.ref f_law_right))
    (F_law : Fun K "law" "law" s_law f_law fd_law)
    (m_law : mg "law" = some (.ref f_law))
    (clC : Cls K C)
    (g_Station : mg "Station" = some (.ref C))
    (clCY : Cls K CY)
    (g_Yard : mg "Yard" = some (.ref CY)) :
    FnG P w K mg base 11 f_law fd_law ["_law_script"] (spLaw15 K) := by
  have b_is_text := F_is_text.binds (ps := ["value"]) fun _ _ _ _ _ _ us hl => match us, hl with | [_], _ => rfl
  have b_is_text_of := F_is_text_of.binds (ps := ["value", "most"]) fun _ _ _ _ _ _ us hl => match us, hl with | [_, _], _ => rfl
  have b_want_stream := F_want_stream.binds (ps := ["stream"]) fun _ _ _ _ _ _ us hl => match us, hl with | [_], _ => rfl
  have b_law_draw := F_law_draw.binds (ps := ["_law_pot_here", "_law_many"]) fun _ _ _ _ _ _ us hl => match us, hl with | [_, _], _ => rfl
  have b_law_pick := F_law_pick.binds (ps := ["_law_pot_here", "_law_some"]) fun _ _ _ _ _ _ us hl => match us, hl with | [_, _], _ => rfl
  have b_law_pot := F_law_pot.binds (ps := ["_law_script", "_law_k"]) fun _ _ _ _ _ _ us hl => match us, hl with | [_, _], _ => rfl
  have b_law_stream := F_law_stream.binds (ps := ["_law_pot_here", "_law_most"]) fun _ _ _ _ _ _ us hl => match us, hl with | [_, _], _ => rfl
  have b_is_integer := F_is_integer.binds (ps := ["value"]) fun _ _ _ _ _ _ us hl => match us, hl with | [_], _ => rfl
  have b_is_count := F_is_count.binds (ps := ["value"]) fun _ _ _ _ _ _ us hl => match us, hl with | [_], _ => rfl
  have b_is_below := F_is_below.binds (ps := ["value", "limit"]) fun _ _ _ _ _ _ us hl => match us, hl with | [_, _], _ => rfl
  have b_is_list := F_is_list.binds (ps := ["value"]) fun _ _ _ _ _ _ us hl => match us, hl with | [_], _ => rfl
  have b_is_row := F_is_row.binds (ps := ["value", "outs", "many"]) fun _ _ _ _ _ _ us hl => match us, hl with | [_, _, _], _ => rfl
  have b_are_read := F_are_read.binds (ps := ["value", "ins"]) fun _ _ _ _ _ _ us hl => match us, hl with | [_, _], _ => rfl
  have b_is_standing_told := F_is_standing_told.binds (ps := ["value", "ins", "outs", "many"]) fun _ _ _ _ _ _ us hl => match us, hl with | [_, _, _, _], _ => rfl
  have b_Station_init := F_Station_init.binds (ps := ["self", "ins", "outs", "standings"]) fun _ _ _ _ _ _ us hl => match us, hl with | [_, _, _, _], _ => rfl
  have b_Station_eq := F_Station_eq.binds (ps := ["self", "other"]) fun _ _ _ _ _ _ us hl => match us, hl with | [_, _], _ => rfl
  have b_want_stations := F_want_stations.binds (ps := ["stations"]) fun _ _ _ _ _ _ us hl => match us, hl with | [_], _ => rfl
  have b_is_pipe := F_is_pipe.binds (ps := ["stations", "value"]) fun _ _ _ _ _ _ us hl => match us, hl with | [_, _], _ => rfl
  have b_want_pipes := F_want_pipes.binds (ps := ["stations", "pipes"]) fun _ _ _ _ _ _ us hl => match us, hl with | [_, _], _ => rfl
  have b_free_lines := F_free_lines.binds (ps := ["stations", "pipes"]) fun _ _ _ _ _ _ us hl => match us, hl with | [_, _], _ => rfl
  have b_Station_len := F_Station_len.binds (ps := ["self"]) fun _ _ _ _ _ _ us hl => match us, hl with | [_], _ => rfl
  have b_Yard_len0 := F_Yard_len0.binds (ps := ["self"]) fun _ _ _ _ _ _ us hl => match us, hl with | [_], _ => rfl
  have b_is_begin := F_is_begin.binds (ps := ["yard", "value"]) fun _ _ _ _ _ _ us hl => match us, hl with | [_, _], _ => rfl
  obtain ⟨ds_Yard_init, v_Yard_init, bd_Yard_init⟩ := F_Yard_init.binds1 (ps := ["self", "stations", "pipes", "begin"]) 3 0 (List.cons_ne_nil _ _) rfl fun _ _ _ _ _ _ _ us its hl hi => match us, its, hl, hi with | [_, _, _], [_], _, _ => ⟨_, rfl, rfl⟩
  have b_Yard_init := FYH.bindsF (ps := ["self", "stations", "pipes", "begin"]) F_Yard_init (List.cons_ne_nil _ _) fun _ _ _ _ _ _ _ us its hl hi => match us, its, hl, hi with | [_, _, _, _], [_], _, _ => ⟨_, rfl, rfl⟩
  have b_Yard_len := F_Yard_len.binds (ps := ["self"]) fun _ _ _ _ _ _ us hl => match us, hl with | [_], _ => rfl
  have b_text_at := F_text_at.binds (ps := ["yard", "state", "station", "line"]) fun _ _ _ _ _ _ us hl => match us, hl with | [_, _, _, _], _ => rfl
  have b_place_of := F_place_of.binds (ps := ["signs"]) fun _ _ _ _ _ _ us hl => match us, hl with | [_], _ => rfl
  have b_begun := F_begun.binds (ps := ["yard", "stream"]) fun _ _ _ _ _ _ us hl => match us, hl with | [_, _], _ => rfl
  have b_beat_row := F_beat_row.binds (ps := ["yard", "state", "station"]) fun _ _ _ _ _ _ us hl => match us, hl with | [_, _, _], _ => rfl
  have b_has_room := F_has_room.binds (ps := ["yard", "contents", "station", "gives", "sizes"]) fun _ _ _ _ _ _ us hl => match us, hl with | [_, _, _, _, _], _ => rfl
  have b_is_possible := F_is_possible.binds (ps := ["yard", "state", "station", "sizes"]) fun _ _ _ _ _ _ us hl => match us, hl with | [_, _, _, _], _ => rfl
  have b_possible := F_possible.binds (ps := ["yard", "state", "sizes"]) fun _ _ _ _ _ _ us hl => match us, hl with | [_, _, _], _ => rfl
  have b_after_beat := F_after_beat.binds (ps := ["yard", "state", "station"]) fun _ _ _ _ _ _ us hl => match us, hl with | [_, _, _], _ => rfl
  have b_are_sizes := F_are_sizes.binds (ps := ["yard", "value"]) fun _ _ _ _ _ _ us hl => match us, hl with | [_, _], _ => rfl
  have b_want_sizes := F_want_sizes.binds (ps := ["yard", "sizes"]) fun _ _ _ _ _ _ us hl => match us, hl with | [_, _], _ => rfl
  have b_is_state := F_is_state.binds (ps := ["yard", "value"]) fun _ _ _ _ _ _ us hl => match us, hl with | [_, _], _ => rfl
  have b_want_state := F_want_state.binds (ps := ["yard", "state"]) fun _ _ _ _ _ _ us hl => match us, hl with | [_, _], _ => rfl
  obtain ⟨ds_can_be_done, v_can_be_done, bd_can_be_done⟩ := F_can_be_done.binds1 (ps := ["yard", "state", "sizes"]) 2 0 (List.cons_ne_nil _ _) rfl fun _ _ _ _ _ _ _ us its hl hi => match us, its, hl, hi with | [_, _], [_], _, _ => ⟨_, rfl, rfl⟩
  have b_can_be_done := FYH.bindsF (ps := ["yard", "state", "sizes"]) F_can_be_done (List.cons_ne_nil _ _) fun _ _ _ _ _ _ _ us its hl hi => match us, its, hl, hi with | [_, _, _], [_], _, _ => ⟨_, rfl, rfl⟩
  have b_is_listT := F_is_listT.binds (ps := ["value"]) fun _ _ _ _ _ _ us hl => match us, hl with | [_], _ => rfl
  have b_fault_ofL := F_fault_ofL.binds (ps := ["yard", "stream", "value", "sizes"]) fun _ _ _ _ _ _ us hl => match us, hl with | [_, _, _, _], _ => rfl
  have b_fault_ofT := F_fault_ofT.binds (ps := ["yard", "stream", "value", "sizes"]) fun _ _ _ _ _ _ us hl => match us, hl with | [_, _, _, _], _ => rfl
  have b_fault_of := F_fault_of.binds (ps := ["yard", "stream", "value", "sizes"]) fun _ _ _ _ _ _ us hl => match us, hl with | [_, _, _, _], _ => rfl
  have b_behind_run := F_behind_run.binds (ps := ["yard", "stream", "run", "sizes"]) fun _ _ _ _ _ _ us hl => match us, hl with | [_, _, _, _], _ => rfl
  obtain ⟨ds_is_run, v_is_run, bd_is_run⟩ := F_is_run.binds1 (ps := ["yard", "stream", "value", "sizes"]) 3 0 (List.cons_ne_nil _ _) rfl fun _ _ _ _ _ _ _ us its hl hi => match us, its, hl, hi with | [_, _, _], [_], _, _ => ⟨_, rfl, rfl⟩
  have b_is_run := FYH.bindsF (ps := ["yard", "stream", "value", "sizes"]) F_is_run (List.cons_ne_nil _ _) fun _ _ _ _ _ _ _ us its hl hi => match us, its, hl, hi with | [_, _, _, _], [_], _, _ => ⟨_, rfl, rfl⟩
  obtain ⟨ds_state_behind, v_state_behind, bd_state_behind⟩ := F_state_behind.binds1 (ps := ["yard", "stream", "run", "sizes"]) 3 0 (List.cons_ne_nil _ _) rfl fun _ _ _ _ _ _ _ us its hl hi => match us, its, hl, hi with | [_, _, _], [_], _, _ => ⟨_, rfl, rfl⟩
  have b_state_behind := FYH.bindsF (ps := ["yard", "stream", "run", "sizes"]) F_state_behind (List.cons_ne_nil _ _) fun _ _ _ _ _ _ _ us its hl hi => match us, its, hl, hi with | [_, _, _, _], [_], _, _ => ⟨_, rfl, rfl⟩
  obtain ⟨ds_is_full, v_is_full, bd_is_full⟩ := F_is_full.binds1 (ps := ["yard", "stream", "run", "sizes"]) 3 0 (List.cons_ne_nil _ _) rfl fun _ _ _ _ _ _ _ us its hl hi => match us, its, hl, hi with | [_, _, _], [_], _, _ => ⟨_, rfl, rfl⟩
  have b_is_full := FYH.bindsF (ps := ["yard", "stream", "run", "sizes"]) F_is_full (List.cons_ne_nil _ _) fun _ _ _ _ _ _ _ us its hl hi => match us, its, hl, hi with | [_, _, _, _], [_], _, _ => ⟨_, rfl, rfl⟩
  obtain ⟨ds_finished, v_finished, bd_finished⟩ := F_finished.binds1 (ps := ["yard", "state", "sizes", "most"]) 3 0 (List.cons_ne_nil _ _) rfl fun _ _ _ _ _ _ _ us its hl hi => match us, its, hl, hi with | [_, _, _], [_], _, _ => ⟨_, rfl, rfl⟩
  have b_finished := FYH.bindsF (ps := ["yard", "state", "sizes", "most"]) F_finished (List.cons_ne_nil _ _) fun _ _ _ _ _ _ _ us its hl hi => match us, its, hl, hi with | [_, _, _, _], [_], _, _ => ⟨_, rfl, rfl⟩
  obtain ⟨ds_full_run, v_full_run, bd_full_run⟩ := F_full_run.binds1 (ps := ["yard", "stream", "sizes"]) 2 0 (List.cons_ne_nil _ _) rfl fun _ _ _ _ _ _ _ us its hl hi => match us, its, hl, hi with | [_, _], [_], _, _ => ⟨_, rfl, rfl⟩
  have b_full_run := FYH.bindsF (ps := ["yard", "stream", "sizes"]) F_full_run (List.cons_ne_nil _ _) fun _ _ _ _ _ _ _ us its hl hi => match us, its, hl, hi with | [_, _, _], [_], _, _ => ⟨_, rfl, rfl⟩
  obtain ⟨ds_end, v_end, bd_end⟩ := F_end.binds1 (ps := ["yard", "stream", "sizes"]) 2 0 (List.cons_ne_nil _ _) rfl fun _ _ _ _ _ _ _ us its hl hi => match us, its, hl, hi with | [_, _], [_], _, _ => ⟨_, rfl, rfl⟩
  have b_end := FYH.bindsF (ps := ["yard", "stream", "sizes"]) F_end (List.cons_ne_nil _ _) fun _ _ _ _ _ _ _ us its hl hi => match us, its, hl, hi with | [_, _, _], [_], _, _ => ⟨_, rfl, rfl⟩
  have b_flows := F_flows.binds (ps := ["yard", "stream"]) fun _ _ _ _ _ _ us hl => match us, hl with | [_, _], _ => rfl
  have b_law_row := F_law_row.binds (ps := ["_law_pot_here", "_law_outs_now", "_law_many"]) fun _ _ _ _ _ _ us hl => match us, hl with | [_, _, _], _ => rfl
  have b_law_station := F_law_station.binds (ps := ["_law_pot_here", "_law_ins_now", "_law_outs_now", "_law_most"]) fun _ _ _ _ _ _ us hl => match us, hl with | [_, _, _, _], _ => rfl
  have b_law_plan := F_law_plan.binds (ps := ["_law_pot_here", "_law_many", "_law_most"]) fun _ _ _ _ _ _ us hl => match us, hl with | [_, _, _], _ => rfl
  have b_law_yard := F_law_yard.binds (ps := ["_law_plan_here"]) fun _ _ _ _ _ _ us hl => match us, hl with | [_], _ => rfl
  have b_law_wires := F_law_wires.binds (ps := ["_law_plan_here"]) fun _ _ _ _ _ _ us hl => match us, hl with | [_], _ => rfl
  have b_law_begin := F_law_begin.binds (ps := ["_law_plan_here", "_law_text"]) fun _ _ _ _ _ _ us hl => match us, hl with | [_, _], _ => rfl
  have b_law_row_at := F_law_row_at.binds (ps := ["_law_plan_here", "_law_wires_here", "_law_here", "_law_at"]) fun _ _ _ _ _ _ us hl => match us, hl with | [_, _, _, _], _ => rfl
  have b_law_can := F_law_can.binds (ps := ["_law_plan_here", "_law_wires_here", "_law_here", "_law_at", "_law_room"]) fun _ _ _ _ _ _ us hl => match us, hl with | [_, _, _, _, _], _ => rfl
  have b_law_able := F_law_able.binds (ps := ["_law_plan_here", "_law_wires_here", "_law_here", "_law_room"]) fun _ _ _ _ _ _ us hl => match us, hl with | [_, _, _, _], _ => rfl
  have b_law_behind := F_law_behind.binds (ps := ["_law_plan_here", "_law_wires_here", "_law_here", "_law_at"]) fun _ _ _ _ _ _ us hl => match us, hl with | [_, _, _, _], _ => rfl
  have b_law_first_run := F_law_first_run.binds (ps := ["_law_plan_here", "_law_wires_here", "_law_here", "_law_room"]) fun _ _ _ _ _ _ us hl => match us, hl with | [_, _, _, _], _ => rfl
  have b_law_drawn_run := F_law_drawn_run.binds (ps := ["_law_pot_here", "_law_plan_here", "_law_wires_here", "_law_here", "_law_room"]) fun _ _ _ _ _ _ us hl => match us, hl with | [_, _, _, _, _], _ => rfl
  have b_law_counts := F_law_counts.binds (ps := ["_law_plan_here", "_law_row_here"]) fun _ _ _ _ _ _ us hl => match us, hl with | [_, _], _ => rfl
  have b_law_states := F_law_states.binds (ps := ["_law_plan_here", "_law_wires_here", "_law_here", "_law_room", "_law_most"]) fun _ _ _ _ _ _ us hl => match us, hl with | [_, _, _, _, _], _ => rfl
  have b_fault_ofN := F_fault_ofN.binds (ps := ["yard", "stream", "value", "sizes"]) fun _ _ _ _ _ _ us hl => match us, hl with | [_, _, _, _], _ => rfl
  obtain ⟨ds_is_runN, v_is_runN, bd_is_runN⟩ := F_is_runN.binds1 (ps := ["yard", "stream", "value", "sizes"]) 3 0 (List.cons_ne_nil _ _) rfl fun _ _ _ _ _ _ _ us its hl hi => match us, its, hl, hi with | [_, _, _], [_], _, _ => ⟨_, rfl, rfl⟩
  have b_is_runN := FYH.bindsF (ps := ["yard", "stream", "value", "sizes"]) F_is_runN (List.cons_ne_nil _ _) fun _ _ _ _ _ _ _ us its hl hi => match us, its, hl, hi with | [_, _, _, _], [_], _, _ => ⟨_, rfl, rfl⟩
  have b_Yard_eq := F_Yard_eq.binds (ps := ["self", "other"]) fun _ _ _ _ _ _ us hl => match us, hl with | [_, _], _ => rfl
  have b_law_ends_right := F_law_ends_right.binds (ps := ["_law_pot_here", "_law_made", "_law_plan_here", "_law_text", "_law_room"]) fun _ _ _ _ _ _ us hl => match us, hl with | [_, _, _, _, _], _ => rfl
  have b_law_less_right := F_law_less_right.binds (ps := ["_law_made", "_law_plan_here", "_law_text", "_law_room"]) fun _ _ _ _ _ _ us hl => match us, hl with | [_, _, _, _], _ => rfl
  have b_law_right := F_law_right.binds (ps := ["_law_pot_here"]) fun _ _ _ _ _ _ us hl => match us, hl with | [_], _ => rfl
  have b_law := F_law.binds (ps := ["_law_script"]) fun _ _ _ _ _ _ us hl => match us, hl with | [_], _ => rfl
  have c_is_text : C8.Cal P w K mg base 1 "is_text" spIsText [] := ⟨⟨_, _, _, [], ok_is_text F_is_text T, m_is_text, F_is_text.kp, b_is_text, .nil⟩⟩
  have c_is_text_of : C8.Cal P w K mg base 2 "is_text_of" spIsTextOf [] := ⟨⟨_, _, _, [], ok_is_text_of F_is_text_of T c_is_text, m_is_text_of, F_is_text_of.kp, b_is_text_of, .nil⟩⟩
  have c_want_stream : C8.Cal P w K mg base 3 "want_stream" spWantStream [] := ⟨⟨_, _, _, [], ok_want_stream F_want_stream T c_is_text_of, m_want_stream, F_want_stream.kp, b_want_stream, .nil⟩⟩
  have c_law_draw : C8.Cal P w K mg base 1 "_law_draw" spDraw [] := ⟨⟨_, _, _, [], ok_law_draw F_law_draw T, m_law_draw, F_law_draw.kp, b_law_draw, .nil⟩⟩
  have c_law_pick : C8.Cal P w K mg base 2 "_law_pick" spPick [] := ⟨⟨_, _, _, [], ok_law_pick F_law_pick T c_law_draw, m_law_pick, F_law_pick.kp, b_law_pick, .nil⟩⟩
  have c_law_pot : C8.Cal P w K mg base 1 "_law_pot" (spPot K) [] := ⟨⟨_, _, _, [], ok_law_pot F_law_pot T, m_law_pot, F_law_pot.kp, b_law_pot, .nil⟩⟩
  have c_law_stream : C8.Cal P w K mg base 3 "_law_stream" spStream [] := ⟨⟨_, _, _, [], ok_law_stream F_law_stream T c_law_draw c_law_pick, m_law_stream, F_law_stream.kp, b_law_stream, .nil⟩⟩
  have c_is_integer : C8.Cal P w K mg base 1 "is_integer" spIsInt [] := ⟨⟨_, _, _, [], ok_is_integer F_is_integer T, m_is_integer, F_is_integer.kp, b_is_integer, .nil⟩⟩
  have c_is_count : C8.Cal P w K mg base 2 "is_count" spIsCount [] := ⟨⟨_, _, _, [], ok_is_count F_is_count T c_is_integer, m_is_count, F_is_count.kp, b_is_count, .nil⟩⟩
  have c_is_below : C8.Cal P w K mg base 3 "is_below" spIsBelow [] := ⟨⟨_, _, _, [], ok_is_below F_is_below T c_is_count, m_is_below, F_is_below.kp, b_is_below, .nil⟩⟩
  have c_is_list : C8.Cal P w K mg base 1 "is_list" spIsList [] := ⟨⟨_, _, _, [], ok_is_list F_is_list T, m_is_list, F_is_list.kp, b_is_list, .nil⟩⟩
  have c_is_row : C8.Cal P w K mg base 4 "is_row" spIsRow [] := ⟨⟨_, _, _, [], ok_is_row F_is_row T c_is_integer c_is_text_of c_is_below, m_is_row, F_is_row.kp, b_is_row, .nil⟩⟩
  have c_are_read : C8.Cal P w K mg base 1 "are_read" spAreRead [] := ⟨⟨_, _, _, [], ok_are_read F_are_read T L, m_are_read, F_are_read.kp, b_are_read, .nil⟩⟩
  have c_is_standing_told : C8.Cal P w K mg base 5 "is_standing_told" spIsTold [] := ⟨⟨_, _, _, [], ok_is_standing_told F_is_standing_told T c_are_read c_is_list c_is_row, m_is_standing_told, F_is_standing_told.kp, b_is_standing_told, .nil⟩⟩
  have mk_Station : C8.Mak P w K mg base 6 "Station" C (spStInit C) [] := ⟨⟨_, _, _, [], mk_Station_init', ok_Station_init F_Station_init T S c_is_integer c_is_list c_is_standing_told, g_Station, b_Station_init, .nil⟩⟩
  have eq_Station : EqC P w K mg base 1 C (StEq C) := ⟨⟨_, _, _, ok_Station_eq F_Station_eq T S IC, me_Station_eq.at_, me_Station_eq.fn, b_Station_eq⟩, neC, IC.hm⟩
  have c_want_stations : C8.Cal P w K mg base 2 "want_stations" (spWantSt C) [] := ⟨⟨_, _, _, [], ok_want_stations F_want_stations T S IC Y0 c_is_list, m_want_stations, F_want_stations.kp, b_want_stations, .nil⟩⟩
  have c_is_pipe : C8.Cal P w K mg base 4 "is_pipe" (spIsPipe C) [] := ⟨⟨_, _, _, [], ok_is_pipe F_is_pipe T S c_is_below, m_is_pipe, F_is_pipe.kp, b_is_pipe, .nil⟩⟩
  have c_want_pipes : C8.Cal P w K mg base 5 "want_pipes" (spWantPp C) [] := ⟨⟨_, _, _, [], ok_want_pipes F_want_pipes T S c_is_list c_is_pipe, m_want_pipes, F_want_pipes.kp, b_want_pipes, .nil⟩⟩
  have c_free_lines : C8.Cal P w K mg base 1 "free_lines" (spFree C) [] := ⟨⟨_, _, _, [], ok_free_lines F_free_lines T S, m_free_lines, F_free_lines.kp, b_free_lines, .nil⟩⟩
  have len_Station_len : LenC P w K mg base 1 C (spStL C) := ⟨⟨_, _, _, ok_Station_len F_Station_len T S, me_Station_len.at_, me_Station_len.fn, b_Station_len⟩⟩
  have len_Yard_len0 : LenC P w K mg base 1 CY (spYL0 CY) := ⟨⟨_, _, _, ok_Yard_len0 F_Yard_len0 T Y, me_Yard_len0.at_, me_Yard_len0.fn, b_Yard_len0⟩⟩
  have c_is_begin : C8.Cal P w K mg base 4 "is_begin" (spIsBegin CY C) [] := ⟨⟨_, _, _, [], ok_is_begin F_is_begin T Y len_Yard_len0 len_Station_len c_is_below c_is_text_of, m_is_begin, F_is_begin.kp, b_is_begin, .nil⟩⟩
  have mk_Yard : C8.Mak P w K mg base 6 "Yard" CY (spYdInit CY C) [.non] := ⟨⟨_, _, _, ds_Yard_init, mk_Yard_init', ok_Yard_init F_Yard_init T Y c_want_stations c_want_pipes c_free_lines c_is_begin, g_Yard, bd_Yard_init, v_Yard_init⟩⟩
  have mk_Yard' : C8.Mak P w K mg base 6 "Yard" CY (spYdInit CY C) [] := ⟨⟨_, _, _, [], mk_Yard_init', ok_Yard_init F_Yard_init T Y c_want_stations c_want_pipes c_free_lines c_is_begin, g_Yard, b_Yard_init, .nil⟩⟩
  have len_Yard_len : LenC P w K mg base 1 CY (spYL CY C) := ⟨⟨_, _, _, ok_Yard_len F_Yard_len T Y, me_Yard_len.at_, me_Yard_len.fn, b_Yard_len⟩⟩
  have c_text_at : C8.Cal P w K mg base 1 "text_at" (spTextAt CY C) [] := ⟨⟨_, _, _, [], ok_text_at F_text_at T Y, m_text_at, F_text_at.kp, b_text_at, .nil⟩⟩
  have c_place_of : C8.Cal P w K mg base 1 "place_of" spPlace [] := ⟨⟨_, _, _, [], ok_place_of F_place_of T, m_place_of, F_place_of.kp, b_place_of, .nil⟩⟩
  have c_begun : C8.Cal P w K mg base 1 "begun" (spBegun CY C) [] := ⟨⟨_, _, _, [], ok_begun F_begun T Y, m_begun, F_begun.kp, b_begun, .nil⟩⟩
  have c_beat_row : C8.Cal P w K mg base 2 "beat_row" (spBeatRow CY C) [] := ⟨⟨_, _, _, [], ok_beat_row F_beat_row T L LT S Y c_text_at c_place_of, m_beat_row, F_beat_row.kp, b_beat_row, .nil⟩⟩
  have c_has_room : C8.Cal P w K mg base 1 "has_room" (spRoom CY C) [] := ⟨⟨_, _, _, [], ok_has_room F_has_room T Y, m_has_room, F_has_room.kp, b_has_room, .nil⟩⟩
  have c_is_possible : C8.Cal P w K mg base 3 "is_possible" (spPoss CY C) [] := ⟨⟨_, _, _, [], ok_is_possible F_is_possible c_beat_row c_has_room, m_is_possible, F_is_possible.kp, b_is_possible, .nil⟩⟩
  have c_possible : C8.Cal P w K mg base 4 "possible" (spPossible CY C) [] := ⟨⟨_, _, _, [], ok_possible F_possible T len_Yard_len c_is_possible, m_possible, F_possible.kp, b_possible, .nil⟩⟩
  have c_after_beat : C8.Cal P w K mg base 3 "after_beat" (spAfter CY C) [] := ⟨⟨_, _, _, [], ok_after_beat F_after_beat T L LT S Y c_beat_row, m_after_beat, F_after_beat.kp, b_after_beat, .nil⟩⟩
  have c_are_sizes : C8.Cal P w K mg base 2 "are_sizes" (spSizes CY C) [] := ⟨⟨_, _, _, [], ok_are_sizes F_are_sizes T Y c_is_integer, m_are_sizes, F_are_sizes.kp, b_are_sizes, .nil⟩⟩
  have c_want_sizes : C8.Cal P w K mg base 3 "want_sizes" (spWSz CY C) [] := ⟨⟨_, _, _, [], ok_want_sizes F_want_sizes c_are_sizes, m_want_sizes, F_want_sizes.kp, b_want_sizes, .nil⟩⟩
  have c_is_state : C8.Cal P w K mg base 4 "is_state" (spIsState CY C) [] := ⟨⟨_, _, _, [], ok_is_state F_is_state T Y len_Yard_len len_Station_len c_is_below c_is_text, m_is_state, F_is_state.kp, b_is_state, .nil⟩⟩
  have c_want_state : C8.Cal P w K mg base 5 "want_state" (spWState CY C) [] := ⟨⟨_, _, _, [], ok_want_state F_want_state c_is_state, m_want_state, F_want_state.kp, b_want_state, .nil⟩⟩
  have c_can_be_done : C8.Cal P w K mg base 6 "can_be_done" (spCan CY C) [] := ⟨⟨_, _, _, [], ok_can_be_done F_can_be_done c_want_state c_want_sizes c_possible, m_can_be_done, F_can_be_done.kp, b_can_be_done, .nil⟩⟩
  have c_can_be_done' : C8.Cal P w K mg base 6 "can_be_done" (spCan CY C) [.non] := ⟨⟨_, _, _, ds_can_be_done, ok_can_be_done F_can_be_done c_want_state c_want_sizes c_possible, m_can_be_done, F_can_be_done.kp, bd_can_be_done, v_can_be_done⟩⟩
  have c_is_listT : C8.Cal P w K mg base 1 "is_list" spIsListT [] := ⟨⟨_, _, _, [], ok_is_listT F_is_listT T, m_is_listT, F_is_listT.kp, b_is_listT, .nil⟩⟩
  have c_fault_ofL : C8.Cal P w K mg base 4 "fault_of" (spFaultO .lst CY C) [] := ⟨⟨_, _, _, [], ok_fault_ofL F_fault_ofL T len_Yard_len c_is_list c_begun c_is_below c_is_possible c_after_beat, m_fault_ofL, F_fault_ofL.kp, b_fault_ofL, .nil⟩⟩
  have c_fault_ofT : C8.Cal P w K mg base 4 "fault_of" (spFaultO .tup CY C) [] := ⟨⟨_, _, _, [], ok_fault_ofT F_fault_ofT T len_Yard_len c_is_listT c_begun c_is_below c_is_possible c_after_beat, m_fault_ofT, F_fault_ofT.kp, b_fault_ofT, .nil⟩⟩
  have c_fault_of : C8.Cal P w K mg base 4 "fault_of" (spFault CY C) [] := ⟨⟨_, _, _, [], ok_fault_of F_fault_of T len_Yard_len c_is_list c_is_listT c_begun c_is_below c_is_possible c_after_beat, m_fault_of, F_fault_of.kp, b_fault_of, .nil⟩⟩
  have c_behind_run : C8.Cal P w K mg base 5 "behind_run" (spBehind CY C) [] := ⟨⟨_, _, _, [], ok_behind_run F_behind_run c_fault_of, m_behind_run, F_behind_run.kp, b_behind_run, .nil⟩⟩
  have c_is_run : C8.Cal P w K mg base 6 "is_run" (spIsRun CY C) [] := ⟨⟨_, _, _, [], ok_is_run F_is_run c_want_stream c_want_sizes c_fault_of, m_is_run, F_is_run.kp, b_is_run, .nil⟩⟩
  have c_is_run' : C8.Cal P w K mg base 6 "is_run" (spIsRun CY C) [.non] := ⟨⟨_, _, _, ds_is_run, ok_is_run F_is_run c_want_stream c_want_sizes c_fault_of, m_is_run, F_is_run.kp, bd_is_run, v_is_run⟩⟩
  have c_state_behind : C8.Cal P w K mg base 6 "state_behind" (spBehind CY C) [] := ⟨⟨_, _, _, [], ok_state_behind F_state_behind c_want_stream c_want_sizes c_behind_run, m_state_behind, F_state_behind.kp, b_state_behind, .nil⟩⟩
  have c_state_behind' : C8.Cal P w K mg base 6 "state_behind" (spBehind CY C) [.non] := ⟨⟨_, _, _, ds_state_behind, ok_state_behind F_state_behind c_want_stream c_want_sizes c_behind_run, m_state_behind, F_state_behind.kp, bd_state_behind, v_state_behind⟩⟩
  have c_is_full : C8.Cal P w K mg base 7 "is_full" (spFull CY C) [] := ⟨⟨_, _, _, [], ok_is_full F_is_full c_possible c_state_behind, m_is_full, F_is_full.kp, b_is_full, .nil⟩⟩
  have c_is_full' : C8.Cal P w K mg base 7 "is_full" (spFull CY C) [.non] := ⟨⟨_, _, _, ds_is_full, ok_is_full F_is_full c_possible c_state_behind, m_is_full, F_is_full.kp, bd_is_full, v_is_full⟩⟩
  have c_finished : C8.Cal P w K mg base 5 "finished" (spFin CY C) [] := ⟨⟨_, _, _, [], ok_finished F_finished T c_possible c_after_beat, m_finished, F_finished.kp, b_finished, .nil⟩⟩
  have c_finished' : C8.Cal P w K mg base 5 "finished" (spFin CY C) [.int (20000 : Nat)] := ⟨⟨_, _, _, ds_finished, ok_finished F_finished T c_possible c_after_beat, m_finished, F_finished.kp, bd_finished, v_finished⟩⟩
  have c_full_run : C8.Cal P w K mg base 6 "full_run" (spRunF CY C) [] := ⟨⟨_, _, _, [], ok_full_run F_full_run c_want_stream c_want_sizes c_begun c_finished', m_full_run, F_full_run.kp, b_full_run, .nil⟩⟩
  have c_full_run' : C8.Cal P w K mg base 6 "full_run" (spRunF CY C) [.non] := ⟨⟨_, _, _, ds_full_run, ok_full_run F_full_run c_want_stream c_want_sizes c_begun c_finished', m_full_run, F_full_run.kp, bd_full_run, v_full_run⟩⟩
  have c_end : C8.Cal P w K mg base 6 "end" (spEnd CY C) [] := ⟨⟨_, _, _, [], ok_end F_end c_want_stream c_want_sizes c_begun c_finished', m_end, F_end.kp, b_end, .nil⟩⟩
  have c_end' : C8.Cal P w K mg base 6 "end" (spEnd CY C) [.non] := ⟨⟨_, _, _, ds_end, ok_end F_end c_want_stream c_want_sizes c_begun c_finished', m_end, F_end.kp, bd_end, v_end⟩⟩
  have c_flows : C8.Cal P w K mg base 7 "flows" (spFlows CY C) [] := ⟨⟨_, _, _, [], ok_flows F_flows T c_end', m_flows, F_flows.kp, b_flows, .nil⟩⟩
  have c_law_row : C8.Cal P w K mg base 3 "_law_row" spRowL [] := ⟨⟨_, _, _, [], ok_law_row F_law_row T c_law_draw c_law_pick, m_law_row, F_law_row.kp, b_law_row, .nil⟩⟩
  have c_law_station : C8.Cal P w K mg base 4 "_law_station" spStationL [] := ⟨⟨_, _, _, [], ok_law_station F_law_station T c_law_draw c_law_pick c_law_row, m_law_station, F_law_station.kp, b_law_station, .nil⟩⟩
  have c_law_plan : C8.Cal P w K mg base 5 "_law_plan" spPlanL [] := ⟨⟨_, _, _, [], ok_law_plan F_law_plan T c_law_draw c_law_pick c_law_station, m_law_plan, F_law_plan.kp, b_law_plan, .nil⟩⟩
  have c_law_yard : C8.Cal P w K mg base 8 "_law_yard" (spYardL CY C) [] := ⟨⟨_, _, _, [], ok_law_yard F_law_yard T mk_Yard' mk_Station, m_law_yard, F_law_yard.kp, b_law_yard, .nil⟩⟩
  have c_law_wires : C8.Cal P w K mg base 1 "_law_wires" spWires [] := ⟨⟨_, _, _, [], ok_law_wires F_law_wires T, m_law_wires, F_law_wires.kp, b_law_wires, .nil⟩⟩
  have c_law_begin : C8.Cal P w K mg base 2 "_law_begin" spBeginL [] := ⟨⟨_, _, _, [], ok_law_begin F_law_begin T c_law_wires, m_law_begin, F_law_begin.kp, b_law_begin, .nil⟩⟩
  have c_law_row_at : C8.Cal P w K mg base 1 "_law_row_at" spRowAt [] := ⟨⟨_, _, _, [], ok_law_row_at F_law_row_at T, m_law_row_at, F_law_row_at.kp, b_law_row_at, .nil⟩⟩
  have c_law_can : C8.Cal P w K mg base 2 "_law_can" spCanL [] := ⟨⟨_, _, _, [], ok_law_can F_law_can T c_law_row_at, m_law_can, F_law_can.kp, b_law_can, .nil⟩⟩
  have c_law_able : C8.Cal P w K mg base 3 "_law_able" spAbleL [] := ⟨⟨_, _, _, [], ok_law_able F_law_able T c_law_can, m_law_able, F_law_able.kp, b_law_able, .nil⟩⟩
  have c_law_behind : C8.Cal P w K mg base 2 "_law_behind" spBehindL [] := ⟨⟨_, _, _, [], ok_law_behind F_law_behind T c_law_row_at, m_law_behind, F_law_behind.kp, b_law_behind, .nil⟩⟩
  have c_law_first_run : C8.Cal P w K mg base 4 "_law_first_run" spFirstL [] := ⟨⟨_, _, _, [], ok_law_first_run F_law_first_run T c_law_able c_law_behind, m_law_first_run, F_law_first_run.kp, b_law_first_run, .nil⟩⟩
  have c_law_drawn_run : C8.Cal P w K mg base 4 "_law_drawn_run" spDrawnL [] := ⟨⟨_, _, _, [], ok_law_drawn_run F_law_drawn_run T c_law_pick c_law_able c_law_behind, m_law_drawn_run, F_law_drawn_run.kp, b_law_drawn_run, .nil⟩⟩
  have c_law_counts : C8.Cal P w K mg base 1 "_law_counts" spCountsL [] := ⟨⟨_, _, _, [], ok_law_counts F_law_counts T, m_law_counts, F_law_counts.kp, b_law_counts, .nil⟩⟩
  have c_law_states : C8.Cal P w K mg base 4 "_law_states" spStates [] := ⟨⟨_, _, _, [], ok_law_states F_law_states T c_law_able c_law_behind, m_law_states, F_law_states.kp, b_law_states, .nil⟩⟩
  have c_fault_ofN : C8.Cal P w K mg base 4 "fault_of" (spFaultN CY C) [] := ⟨⟨_, _, _, [], ok_fault_ofN F_fault_ofN T len_Yard_len c_is_list c_begun c_is_below c_is_possible c_after_beat, m_fault_ofN, F_fault_ofN.kp, b_fault_ofN, .nil⟩⟩
  have c_is_runN : C8.Cal P w K mg base 6 "is_run" (spIsRunN CY C) [] := ⟨⟨_, _, _, [], ok_is_runN F_is_runN c_want_stream c_want_sizes c_fault_ofN, m_is_runN, F_is_runN.kp, b_is_runN, .nil⟩⟩
  have c_is_runN' : C8.Cal P w K mg base 6 "is_run" (spIsRunN CY C) [.non] := ⟨⟨_, _, _, ds_is_runN, ok_is_runN F_is_runN c_want_stream c_want_sizes c_fault_ofN, m_is_runN, F_is_runN.kp, bd_is_runN, v_is_runN⟩⟩
  have eq_Yard : EqC P w K mg base 3 CY (YdEq CY C) := ⟨⟨_, _, _, ok_Yard_eq F_Yard_eq T Y0 Y ICY eq_Station, me_Yard_eq.at_, me_Yard_eq.fn, b_Yard_eq⟩, neCY, ICY.hm⟩
  obtain ⟨gn1_full_run, bn1_full_run⟩ := kbn_D F_full_run ["yard", "stream", "sizes"] 0 ["sizes", "stream", "yard"] [2, 1, 0] (List.cons_ne_nil _ _) fun _ _ _ _ _ _ _ us its ws hu hi hw => match us, its, ws, hu, hi, hw with | [], [_], [_, _, _], _, _, _ => ⟨_, rfl, rfl⟩
  have n1_full_run : CalN P w K mg base CX0 6 "full_run" (spRunF CY C) 0 ["sizes", "stream", "yard"] [2, 1, 0] [.non] := ⟨⟨_, _, _, _, ok_full_run F_full_run c_want_stream c_want_sizes c_begun c_finished', m_full_run, F_full_run.kp, bn1_full_run⟩⟩
  obtain ⟨gn2_end, bn2_end⟩ := kbn_D F_end ["yard", "stream", "sizes"] 0 ["yard", "stream", "sizes"] [0, 1, 2] (List.cons_ne_nil _ _) fun _ _ _ _ _ _ _ us its ws hu hi hw => match us, its, ws, hu, hi, hw with | [], [_], [_, _, _], _, _, _ => ⟨_, rfl, rfl⟩
  have n2_end : CalN P w K mg base CX0 6 "end" (spEnd CY C) 0 ["yard", "stream", "sizes"] [0, 1, 2] [.non] := ⟨⟨_, _, _, _, ok_end F_end c_want_stream c_want_sizes c_begun c_finished', m_end, F_end.kp, bn2_end⟩⟩
  have c_law_ends_right : CalG P w K mg base 8 "_law_ends_right" (spEnds CY C) := ⟨⟨_, _, _, ok_law_ends_right F_law_ends_right T c_law_draw c_law_wires c_law_begin c_law_first_run c_law_drawn_run c_law_states c_law_able c_law_counts c_full_run n1_full_run c_end n2_end c_can_be_done c_state_behind c_is_run c_is_run' c_is_runN c_is_full, m_law_ends_right, F_law_ends_right.kp, b_law_ends_right⟩⟩
  obtain ⟨gn3_flows, bn3_flows⟩ := kbn_F F_flows ["yard", "stream"] 0 ["stream", "yard"] [1, 0] fun _ _ _ _ _ _ us ws hu hw => match us, ws, hu, hw with | [], [_, _], _, _ => rfl
  have n3_flows : CalN P w K mg base CX0 7 "flows" (spFlows CY C) 0 ["stream", "yard"] [1, 0] [] := ⟨⟨_, _, _, _, ok_flows F_flows T c_end', m_flows, F_flows.kp, bn3_flows⟩⟩
  have c_law_less_right : C8.Cal P w K mg base 8 "_law_less_right" (spLess CY C) [] := ⟨⟨_, _, _, [], ok_law_less_right F_law_less_right T c_law_counts c_end c_end' c_full_run c_full_run' c_flows n3_flows, m_law_less_right, F_law_less_right.kp, b_law_less_right, .nil⟩⟩
  have c_law_right : CalG P w K mg base 10 "_law_right" spRt15 := ⟨⟨_, _, _, ok_law_right F_law_right T c_law_draw c_law_plan c_law_yard c_law_stream c_law_wires c_law_begin c_law_first_run c_law_ends_right c_law_less_right eq_Yard, m_law_right, F_law_right.kp, b_law_right⟩⟩
  exact ok_law F_law c_law_pot c_law_right
end FY

set_option Elab.async false
set_option linter.all false
set_option maxRecDepth 100000
set_option maxHeartbeats 0
namespace FYH
open PySem PySem.Spec PyProof.Rows L2 FYR FY
theorem isa_of {K : PySem.W.Frag} {C : Addr} (cl : Cls K C) (h : isaB K C = true) : IsaC K C := by
  obtain ⟨h1, h⟩ := He.ba h
  obtain ⟨h2, h⟩ := He.ba h
  obtain ⟨h3, h4⟩ := He.ba h
  exact ⟨cl, He.eqO_ok h1, He.eqO_ok h2, of_decide_eq_true h3, of_decide_eq_true h4⟩
theorem facts {P : Program} {w : World} {K : PySem.W.Frag} {h : Heap} {mg : Str → Option Value} {f : Addr} (X : K.In h) (G : h.Ns mainGlobals mg) (hfa : mg ("law" : Str) = some (.ref f)) (c : hd.Says w K) :
    ∃ fd : FuncData, (∀ (s : Shared) (v : Value), BindsTo s fd ⟨[v], []⟩ [("_law_script", v)]) ∧ ∀ base : Heap, K.In base → base.Ns mainGlobals mg → FnG P w K mg base 11 f fd ["_law_script"] (FY.spLaw15 K) := by
  have e := hfa.symm.trans (He.glo_ok X G (c.t.d.fact 64 (f := .glo "law") rfl))
  cases e
  have ex : ∀ (i : Nat) {e : PySem.W.Frag → Bool}, exs[i]? = some e → e K = true := fun i e h => List.all_eq_true.mp c.ex e (List.mem_of_getElem? h)
  obtain ⟨fd_is_text, G_is_text⟩ := c.t.d.def_ 0 (d := ⟨("is_text", none), "is_text", "is_text", defArgs (top 6), defBody (top 6), defScope (top 6), [], []⟩) rfl
  have F_is_text := fun_ofD (st := FY.s_is_text) G_is_text
  obtain ⟨fd_is_text_of, G_is_text_of⟩ := c.t.d.def_ 1 (d := ⟨("is_text_of", none), "is_text_of", "is_text_of", defArgs (top 8), defBody (top 8), defScope (top 8), [], []⟩) rfl
  have F_is_text_of := fun_ofD (st := FY.s_is_text_of) G_is_text_of
  obtain ⟨fd_want_stream, G_want_stream⟩ := c.t.d.def_ 2 (d := ⟨("want_stream", none), "want_stream", "want_stream", defArgs (top 47), defBody (top 47), defScope (top 47), [], []⟩) rfl
  have F_want_stream := fun_ofD (st := FY.s_want_stream) G_want_stream
  obtain ⟨fd_law_draw, G_law_draw⟩ := c.t.d.def_ 3 (d := ⟨("_law_draw", none), "_law_draw", "_law_draw", defArgs (top 71), defBody (top 71), defScope (top 71), [], []⟩) rfl
  have F_law_draw := fun_ofD (st := FY.s_law_draw) G_law_draw
  obtain ⟨fd_law_pick, G_law_pick⟩ := c.t.d.def_ 4 (d := ⟨("_law_pick", none), "_law_pick", "_law_pick", defArgs (top 72), defBody (top 72), defScope (top 72), [], []⟩) rfl
  have F_law_pick := fun_ofD (st := FY.s_law_pick) G_law_pick
  obtain ⟨fd_law_pot, G_law_pot⟩ := c.t.d.def_ 5 (d := ⟨("_law_pot", none), "_law_pot", "_law_pot", defArgs (top 70), defBody (top 70), defScope (top 70), [], []⟩) rfl
  have F_law_pot := fun_ofD (st := FY.s_law_pot) G_law_pot
  obtain ⟨fd_law_stream, G_law_stream⟩ := c.t.d.def_ 6 (d := ⟨("_law_stream", none), "_law_stream", "_law_stream", defArgs (top 84), defBody (top 84), defScope (top 84), [], []⟩) rfl
  have F_law_stream := fun_ofD (st := FY.s_law_stream) G_law_stream
  obtain ⟨fd_is_integer, G_is_integer⟩ := c.t.d.def_ 7 (d := ⟨("is_integer", none), "is_integer", "is_integer", defArgs (top 3), defBody (top 3), defScope (top 3), [], []⟩) rfl
  have F_is_integer := fun_ofD (st := FY.s_is_integer) G_is_integer
  obtain ⟨fd_is_count, G_is_count⟩ := c.t.d.def_ 8 (d := ⟨("is_count", none), "is_count", "is_count", defArgs (top 4), defBody (top 4), defScope (top 4), [], []⟩) rfl
  have F_is_count := fun_ofD (st := FY.s_is_count) G_is_count
  obtain ⟨fd_is_below, G_is_below⟩ := c.t.d.def_ 9 (d := ⟨("is_below", none), "is_below", "is_below", defArgs (top 5), defBody (top 5), defScope (top 5), [], []⟩) rfl
  have F_is_below := fun_ofD (st := FY.s_is_below) G_is_below
  obtain ⟨fd_is_list, G_is_list⟩ := c.t.d.def_ 10 (d := ⟨("is_list", none), "is_list", "is_list", defArgs (top 7), defBody (top 7), defScope (top 7), [], []⟩) rfl
  have F_is_list := fun_ofD (st := FY.s_is_list) G_is_list
  obtain ⟨fd_is_row, G_is_row⟩ := c.t.d.def_ 11 (d := ⟨("is_row", none), "is_row", "is_row", defArgs (top 31), defBody (top 31), defScope (top 31), [], []⟩) rfl
  have F_is_row := fun_ofD (st := FY.s_is_row) G_is_row
  obtain ⟨fd_are_read, G_are_read⟩ := c.t.d.def_ 12 (d := ⟨("are_read", none), "are_read", "are_read", defArgs (top 32), defBody (top 32), defScope (top 32), [], []⟩) rfl
  have F_are_read := fun_ofD (st := FY.s_are_read) G_are_read
  obtain ⟨fd_is_standing_told, G_is_standing_told⟩ := c.t.d.def_ 13 (d := ⟨("is_standing_told", none), "is_standing_told", "is_standing_told", defArgs (top 33), defBody (top 33), defScope (top 33), [], []⟩) rfl
  have F_is_standing_told := fun_ofD (st := FY.s_is_standing_told) G_is_standing_told
  obtain ⟨fd_Station_init, G_Station_init⟩ := c.t.d.def_ 14 (d := ⟨("Station", some "__init__"), "__init__", "Station.__init__", defArgs (inClass (top 35) 0), defBody (inClass (top 35) 0), defScope (inClass (top 35) 0), [], []⟩) rfl
  have F_Station_init := fun_ofD (st := FY.s_Station___init__) G_Station_init
  obtain ⟨fd_Station_eq, G_Station_eq⟩ := c.t.d.def_ 15 (d := ⟨("Station", some "__eq__"), "__eq__", "Station.__eq__", defArgs (inClass (top 35) 7), defBody (inClass (top 35) 7), defScope (inClass (top 35) 7), [], []⟩) rfl
  have F_Station_eq := fun_ofD (st := FY.s_Station___eq__) G_Station_eq
  obtain ⟨fd_want_stations, G_want_stations⟩ := c.t.d.def_ 16 (d := ⟨("want_stations", none), "want_stations", "want_stations", defArgs (top 37), defBody (top 37), defScope (top 37), [], []⟩) rfl
  have F_want_stations := fun_ofD (st := FY.s_want_stations) G_want_stations
  obtain ⟨fd_is_pipe, G_is_pipe⟩ := c.t.d.def_ 17 (d := ⟨("is_pipe", none), "is_pipe", "is_pipe", defArgs (top 38), defBody (top 38), defScope (top 38), [], []⟩) rfl
  have F_is_pipe := fun_ofD (st := FY.s_is_pipe) G_is_pipe
  obtain ⟨fd_want_pipes, G_want_pipes⟩ := c.t.d.def_ 18 (d := ⟨("want_pipes", none), "want_pipes", "want_pipes", defArgs (top 39), defBody (top 39), defScope (top 39), [], []⟩) rfl
  have F_want_pipes := fun_ofD (st := FY.s_want_pipes) G_want_pipes
  obtain ⟨fd_free_lines, G_free_lines⟩ := c.t.d.def_ 19 (d := ⟨("free_lines", none), "free_lines", "free_lines", defArgs (top 40), defBody (top 40), defScope (top 40), [], []⟩) rfl
  have F_free_lines := fun_ofD (st := FY.s_free_lines) G_free_lines
  obtain ⟨fd_Station_len, G_Station_len⟩ := c.t.d.def_ 20 (d := ⟨("Station", some "__len__"), "__len__", "Station.__len__", defArgs (inClass (top 35) 6), defBody (inClass (top 35) 6), defScope (inClass (top 35) 6), [], []⟩) rfl
  have F_Station_len := fun_ofD (st := FY.s_Station___len__) G_Station_len
  obtain ⟨fd_Yard_len0, G_Yard_len0⟩ := c.t.d.def_ 21 (d := ⟨("Yard", some "__len__"), "__len__", "Yard.__len__", defArgs (inClass (top 42) 8), defBody (inClass (top 42) 8), defScope (inClass (top 42) 8), [], []⟩) rfl
  have F_Yard_len0 := fun_ofD (st := FY.s_Yard___len__) G_Yard_len0
  obtain ⟨fd_is_begin, G_is_begin⟩ := c.t.d.def_ 22 (d := ⟨("is_begin", none), "is_begin", "is_begin", defArgs (top 41), defBody (top 41), defScope (top 41), [], []⟩) rfl
  have F_is_begin := fun_ofD (st := FY.s_is_begin) G_is_begin
  obtain ⟨fd_Yard_init, G_Yard_init⟩ := c.t.d.def_ 23 (d := ⟨("Yard", some "__init__"), "__init__", "Yard.__init__", defArgs (inClass (top 42) 2), defBody (inClass (top 42) 2), defScope (inClass (top 42) 2), [.non], []⟩) rfl
  obtain ⟨fd_Yard_len, G_Yard_len⟩ := c.t.d.def_ 24 (d := ⟨("Yard", some "__len__"), "__len__", "Yard.__len__", defArgs (inClass (top 42) 8), defBody (inClass (top 42) 8), defScope (inClass (top 42) 8), [], []⟩) rfl
  have F_Yard_len := fun_ofD (st := FY.s_Yard___len__) G_Yard_len
  obtain ⟨fd_text_at, G_text_at⟩ := c.t.d.def_ 25 (d := ⟨("text_at", none), "text_at", "text_at", defArgs (top 53), defBody (top 53), defScope (top 53), [], []⟩) rfl
  have F_text_at := fun_ofD (st := FY.s_text_at) G_text_at
  obtain ⟨fd_place_of, G_place_of⟩ := c.t.d.def_ 26 (d := ⟨("place_of", none), "place_of", "place_of", defArgs (top 34), defBody (top 34), defScope (top 34), [], []⟩) rfl
  have F_place_of := fun_ofD (st := FY.s_place_of) G_place_of
  obtain ⟨fd_begun, G_begun⟩ := c.t.d.def_ 27 (d := ⟨("begun", none), "begun", "begun", defArgs (top 52), defBody (top 52), defScope (top 52), [], []⟩) rfl
  have F_begun := fun_ofD (st := FY.s_begun) G_begun
  obtain ⟨fd_beat_row, G_beat_row⟩ := c.t.d.def_ 28 (d := ⟨("beat_row", none), "beat_row", "beat_row", defArgs (top 54), defBody (top 54), defScope (top 54), [], []⟩) rfl
  have F_beat_row := fun_ofD (st := FY.s_beat_row) G_beat_row
  obtain ⟨fd_has_room, G_has_room⟩ := c.t.d.def_ 29 (d := ⟨("has_room", none), "has_room", "has_room", defArgs (top 55), defBody (top 55), defScope (top 55), [], []⟩) rfl
  have F_has_room := fun_ofD (st := FY.s_has_room) G_has_room
  obtain ⟨fd_is_possible, G_is_possible⟩ := c.t.d.def_ 30 (d := ⟨("is_possible", none), "is_possible", "is_possible", defArgs (top 56), defBody (top 56), defScope (top 56), [], []⟩) rfl
  have F_is_possible := fun_ofD (st := FY.s_is_possible) G_is_possible
  obtain ⟨fd_possible, G_possible⟩ := c.t.d.def_ 31 (d := ⟨("possible", none), "possible", "possible", defArgs (top 57), defBody (top 57), defScope (top 57), [], []⟩) rfl
  have F_possible := fun_ofD (st := FY.s_possible) G_possible
  obtain ⟨fd_after_beat, G_after_beat⟩ := c.t.d.def_ 32 (d := ⟨("after_beat", none), "after_beat", "after_beat", defArgs (top 58), defBody (top 58), defScope (top 58), [], []⟩) rfl
  have F_after_beat := fun_ofD (st := FY.s_after_beat) G_after_beat
  obtain ⟨fd_are_sizes, G_are_sizes⟩ := c.t.d.def_ 33 (d := ⟨("are_sizes", none), "are_sizes", "are_sizes", defArgs (top 48), defBody (top 48), defScope (top 48), [], []⟩) rfl
  have F_are_sizes := fun_ofD (st := FY.s_are_sizes) G_are_sizes
  obtain ⟨fd_want_sizes, G_want_sizes⟩ := c.t.d.def_ 34 (d := ⟨("want_sizes", none), "want_sizes", "want_sizes", defArgs (top 49), defBody (top 49), defScope (top 49), [], []⟩) rfl
  have F_want_sizes := fun_ofD (st := FY.s_want_sizes) G_want_sizes
  obtain ⟨fd_is_state, G_is_state⟩ := c.t.d.def_ 35 (d := ⟨("is_state", none), "is_state", "is_state", defArgs (top 50), defBody (top 50), defScope (top 50), [], []⟩) rfl
  have F_is_state := fun_ofD (st := FY.s_is_state) G_is_state
  obtain ⟨fd_want_state, G_want_state⟩ := c.t.d.def_ 36 (d := ⟨("want_state", none), "want_state", "want_state", defArgs (top 51), defBody (top 51), defScope (top 51), [], []⟩) rfl
  have F_want_state := fun_ofD (st := FY.s_want_state) G_want_state
  obtain ⟨fd_can_be_done, G_can_be_done⟩ := c.t.d.def_ 37 (d := ⟨("can_be_done", none), "can_be_done", "can_be_done", defArgs (top 59), defBody (top 59), defScope (top 59), [.non], []⟩) rfl
  obtain ⟨fd_is_listT, G_is_listT⟩ := c.t.d.def_ 38 (d := ⟨("is_list", none), "is_list", "is_list", defArgs (top 7), defBody (top 7), defScope (top 7), [], []⟩) rfl
  have F_is_listT := fun_ofD (st := FY.s_is_list) G_is_listT
  obtain ⟨fd_fault_ofL, G_fault_ofL⟩ := c.t.d.def_ 39 (d := ⟨("fault_of", none), "fault_of", "fault_of", defArgs (top 60), defBody (top 60), defScope (top 60), [], []⟩) rfl
  have F_fault_ofL := fun_ofD (st := FY.s_fault_of) G_fault_ofL
  obtain ⟨fd_fault_ofT, G_fault_ofT⟩ := c.t.d.def_ 40 (d := ⟨("fault_of", none), "fault_of", "fault_of", defArgs (top 60), defBody (top 60), defScope (top 60), [], []⟩) rfl
  have F_fault_ofT := fun_ofD (st := FY.s_fault_of) G_fault_ofT
  obtain ⟨fd_fault_of, G_fault_of⟩ := c.t.d.def_ 41 (d := ⟨("fault_of", none), "fault_of", "fault_of", defArgs (top 60), defBody (top 60), defScope (top 60), [], []⟩) rfl
  have F_fault_of := fun_ofD (st := FY.s_fault_of) G_fault_of
  obtain ⟨fd_behind_run, G_behind_run⟩ := c.t.d.def_ 42 (d := ⟨("behind_run", none), "behind_run", "behind_run", defArgs (top 61), defBody (top 61), defScope (top 61), [], []⟩) rfl
  have F_behind_run := fun_ofD (st := FY.s_behind_run) G_behind_run
  obtain ⟨fd_is_run, G_is_run⟩ := c.t.d.def_ 43 (d := ⟨("is_run", none), "is_run", "is_run", defArgs (top 62), defBody (top 62), defScope (top 62), [.non], []⟩) rfl
  obtain ⟨fd_state_behind, G_state_behind⟩ := c.t.d.def_ 44 (d := ⟨("state_behind", none), "state_behind", "state_behind", defArgs (top 63), defBody (top 63), defScope (top 63), [.non], []⟩) rfl
  obtain ⟨fd_is_full, G_is_full⟩ := c.t.d.def_ 45 (d := ⟨("is_full", none), "is_full", "is_full", defArgs (top 64), defBody (top 64), defScope (top 64), [.non], []⟩) rfl
  obtain ⟨fd_finished, G_finished⟩ := c.t.d.def_ 46 (d := ⟨("finished", none), "finished", "finished", defArgs (top 65), defBody (top 65), defScope (top 65), [.int 20000], []⟩) rfl
  obtain ⟨fd_full_run, G_full_run⟩ := c.t.d.def_ 47 (d := ⟨("full_run", none), "full_run", "full_run", defArgs (top 66), defBody (top 66), defScope (top 66), [.non], []⟩) rfl
  obtain ⟨fd_end, G_end⟩ := c.t.d.def_ 48 (d := ⟨("end", none), "end", "end", defArgs (top 67), defBody (top 67), defScope (top 67), [.non], []⟩) rfl
  obtain ⟨fd_flows, G_flows⟩ := c.t.d.def_ 49 (d := ⟨("flows", none), "flows", "flows", defArgs (top 68), defBody (top 68), defScope (top 68), [], []⟩) rfl
  have F_flows := fun_ofD (st := FY.s_flows) G_flows
  obtain ⟨fd_law_row, G_law_row⟩ := c.t.d.def_ 50 (d := ⟨("_law_row", none), "_law_row", "_law_row", defArgs (top 73), defBody (top 73), defScope (top 73), [], []⟩) rfl
  have F_law_row := fun_ofD (st := FY.s_law_row) G_law_row
  obtain ⟨fd_law_station, G_law_station⟩ := c.t.d.def_ 51 (d := ⟨("_law_station", none), "_law_station", "_law_station", defArgs (top 74), defBody (top 74), defScope (top 74), [], []⟩) rfl
  have F_law_station := fun_ofD (st := FY.s_law_station) G_law_station
  obtain ⟨fd_law_plan, G_law_plan⟩ := c.t.d.def_ 52 (d := ⟨("_law_plan", none), "_law_plan", "_law_plan", defArgs (top 75), defBody (top 75), defScope (top 75), [], []⟩) rfl
  have F_law_plan := fun_ofD (st := FY.s_law_plan) G_law_plan
  obtain ⟨fd_law_yard, G_law_yard⟩ := c.t.d.def_ 53 (d := ⟨("_law_yard", none), "_law_yard", "_law_yard", defArgs (top 76), defBody (top 76), defScope (top 76), [], []⟩) rfl
  have F_law_yard := fun_ofD (st := FY.s_law_yard) G_law_yard
  obtain ⟨fd_law_wires, G_law_wires⟩ := c.t.d.def_ 54 (d := ⟨("_law_wires", none), "_law_wires", "_law_wires", defArgs (top 77), defBody (top 77), defScope (top 77), [], []⟩) rfl
  have F_law_wires := fun_ofD (st := FY.s_law_wires) G_law_wires
  obtain ⟨fd_law_begin, G_law_begin⟩ := c.t.d.def_ 55 (d := ⟨("_law_begin", none), "_law_begin", "_law_begin", defArgs (top 78), defBody (top 78), defScope (top 78), [], []⟩) rfl
  have F_law_begin := fun_ofD (st := FY.s_law_begin) G_law_begin
  obtain ⟨fd_law_row_at, G_law_row_at⟩ := c.t.d.def_ 56 (d := ⟨("_law_row_at", none), "_law_row_at", "_law_row_at", defArgs (top 79), defBody (top 79), defScope (top 79), [], []⟩) rfl
  have F_law_row_at := fun_ofD (st := FY.s_law_row_at) G_law_row_at
  obtain ⟨fd_law_can, G_law_can⟩ := c.t.d.def_ 57 (d := ⟨("_law_can", none), "_law_can", "_law_can", defArgs (top 80), defBody (top 80), defScope (top 80), [], []⟩) rfl
  have F_law_can := fun_ofD (st := FY.s_law_can) G_law_can
  obtain ⟨fd_law_able, G_law_able⟩ := c.t.d.def_ 58 (d := ⟨("_law_able", none), "_law_able", "_law_able", defArgs (top 81), defBody (top 81), defScope (top 81), [], []⟩) rfl
  have F_law_able := fun_ofD (st := FY.s_law_able) G_law_able
  obtain ⟨fd_law_behind, G_law_behind⟩ := c.t.d.def_ 59 (d := ⟨("_law_behind", none), "_law_behind", "_law_behind", defArgs (top 82), defBody (top 82), defScope (top 82), [], []⟩) rfl
  have F_law_behind := fun_ofD (st := FY.s_law_behind) G_law_behind
  obtain ⟨fd_law_first_run, G_law_first_run⟩ := c.t.d.def_ 60 (d := ⟨("_law_first_run", none), "_law_first_run", "_law_first_run", defArgs (top 83), defBody (top 83), defScope (top 83), [], []⟩) rfl
  have F_law_first_run := fun_ofD (st := FY.s_law_first_run) G_law_first_run
  obtain ⟨fd_law_drawn_run, G_law_drawn_run⟩ := c.t.d.def_ 61 (d := ⟨("_law_drawn_run", none), "_law_drawn_run", "_law_drawn_run", defArgs (top 86), defBody (top 86), defScope (top 86), [], []⟩) rfl
  have F_law_drawn_run := fun_ofD (st := FY.s_law_drawn_run) G_law_drawn_run
  obtain ⟨fd_law_counts, G_law_counts⟩ := c.t.d.def_ 62 (d := ⟨("_law_counts", none), "_law_counts", "_law_counts", defArgs (top 87), defBody (top 87), defScope (top 87), [], []⟩) rfl
  have F_law_counts := fun_ofD (st := FY.s_law_counts) G_law_counts
  obtain ⟨fd_law_states, G_law_states⟩ := c.t.d.def_ 63 (d := ⟨("_law_states", none), "_law_states", "_law_states", defArgs (top 85), defBody (top 85), defScope (top 85), [], []⟩) rfl
  have F_law_states := fun_ofD (st := FY.s_law_states) G_law_states
  obtain ⟨fd_fault_ofN, G_fault_ofN⟩ := c.t.d.def_ 64 (d := ⟨("fault_of", none), "fault_of", "fault_of", defArgs (top 60), defBody (top 60), defScope (top 60), [], []⟩) rfl
  have F_fault_ofN := fun_ofD (st := FY.s_fault_of) G_fault_ofN
  obtain ⟨fd_is_runN, G_is_runN⟩ := c.t.d.def_ 65 (d := ⟨("is_run", none), "is_run", "is_run", defArgs (top 62), defBody (top 62), defScope (top 62), [.non], []⟩) rfl
  obtain ⟨fd_Yard_eq, G_Yard_eq⟩ := c.t.d.def_ 66 (d := ⟨("Yard", some "__eq__"), "__eq__", "Yard.__eq__", defArgs (inClass (top 42) 9), defBody (inClass (top 42) 9), defScope (inClass (top 42) 9), [], []⟩) rfl
  have F_Yard_eq := fun_ofD (st := FY.s_Yard___eq__) G_Yard_eq
  obtain ⟨fd_law_ends_right, G_law_ends_right⟩ := c.t.d.def_ 67 (d := ⟨("_law_ends_right", none), "_law_ends_right", "_law_ends_right", defArgs (top 88), defBody (top 88), defScope (top 88), [], []⟩) rfl
  have F_law_ends_right := fun_ofD (st := FY.s_law_ends_right) G_law_ends_right
  obtain ⟨fd_law_less_right, G_law_less_right⟩ := c.t.d.def_ 68 (d := ⟨("_law_less_right", none), "_law_less_right", "_law_less_right", defArgs (top 89), defBody (top 89), defScope (top 89), [], []⟩) rfl
  have F_law_less_right := fun_ofD (st := FY.s_law_less_right) G_law_less_right
  obtain ⟨fd_law_right, G_law_right⟩ := c.t.d.def_ 69 (d := ⟨("_law_right", none), "_law_right", "_law_right", defArgs (top 90), defBody (top 90), defScope (top 90), [], []⟩) rfl
  have F_law_right := fun_ofD (st := FY.s_law_right) G_law_right
  obtain ⟨fd_law, G_law⟩ := c.t.d.def_ 70 (d := ⟨("law", none), "law", "law", defArgs (top 91), defBody (top 91), defScope (top 91), [], []⟩) rfl
  have F_law := fun_ofD (st := FY.s_law) G_law
  have T : Txt K mg (He.ga K "SIGNS") (0 : Addr) (0 : Addr) := { b_len := He.free_ok X G (c.t.d.fact 78 (f := .free "len") rfl), b_isinstance := He.free_ok X G (c.t.d.fact 79 (f := .free "isinstance") rfl), b_all := He.free_ok X G (c.t.d.fact 80 (f := .free "all") rfl), b_sum := He.free_ok X G (c.t.d.fact 81 (f := .free "sum") rfl), b_abs := He.free_ok X G (c.t.d.fact 82 (f := .free "abs") rfl), b_max := He.free_ok X G (c.t.d.fact 83 (f := .free "max") rfl), b_min := He.free_ok X G (c.t.d.fact 84 (f := .free "min") rfl), b_divmod := He.free_ok X G (c.t.d.fact 85 (f := .free "divmod") rfl), b_repr := He.free_ok X G (c.t.d.fact 86 (f := .free "repr") rfl), b_int := He.free_ok X G (c.t.d.fact 87 (f := .free "int") rfl), b_str := He.free_ok X G (c.t.d.fact 88 (f := .free "str") rfl), b_tuple := He.free_ok X G (c.t.d.fact 89 (f := .free "tuple") rfl), b_list := He.free_ok X G (c.t.d.fact 90 (f := .free "list") rfl), b_zip := He.free_ok X G (c.t.d.fact 91 (f := .free "zip") rfl), b_range := He.free_ok X G (c.t.d.fact 92 (f := .free "range") rfl), b_dict := He.free_ok X G (c.t.d.fact 93 (f := .free "dict") rfl), b_bool := He.free_ok X G (c.t.d.fact 94 (f := .free "bool") rfl), b_enumerate := He.free_ok X G (c.t.d.fact 95 (f := .free "enumerate") rfl), b_sorted := He.free_ok X G (c.t.d.fact 96 (f := .free "sorted") rfl), g_SIGNS := ⟨_, He.glo_ok X G (c.t.d.fact 103 (f := .glo "SIGNS") rfl), rfl⟩, k_SIGNS := fun H => tupA_ok (ex 0 rfl) H, g_MOST_STANDINGS := (let ⟨t, e⟩ := He.int_ok X G (c.t.d.fact 97 (f := .int "MOST_STANDINGS" 4) rfl); ⟨_, e, ⟨t, rfl⟩⟩), g_MOST_GIVEN := (let ⟨t, e⟩ := He.int_ok X G (c.t.d.fact 98 (f := .int "MOST_GIVEN" 2) rfl); ⟨_, e, ⟨t, rfl⟩⟩), g_MOST_TICKS := (let ⟨t, e⟩ := He.int_ok X G (c.t.d.fact 99 (f := .int "MOST_TICKS" 9) rfl); ⟨_, e, ⟨t, rfl⟩⟩), g_MOST_CONTENT := (let ⟨t, e⟩ := He.int_ok X G (c.t.d.fact 100 (f := .int "MOST_CONTENT" 3) rfl); ⟨_, e, ⟨t, rfl⟩⟩), g_MOST_SIZE := (let ⟨t, e⟩ := He.int_ok X G (c.t.d.fact 101 (f := .int "MOST_SIZE" 3) rfl); ⟨_, e, ⟨t, rfl⟩⟩), g_MOST_STREAM := (let ⟨t, e⟩ := He.int_ok X G (c.t.d.fact 102 (f := .int "MOST_STREAM" 1000) rfl); ⟨_, e, ⟨t, rfl⟩⟩) }
  have L : Lin K w mg (He.ga K "LINES") := ⟨⟨_, He.glo_ok X G (c.t.d.fact 104 (f := .glo "LINES") rfl), rfl⟩, c.t.tab 0 (t := (fun K => He.ga K "LINES", ["1", "2", "12"])) rfl, fun r => match r with | .one => ⟨_, He.eqO_ok (ex 1 rfl)⟩ | .two => ⟨_, He.eqO_ok (ex 3 rfl)⟩ | .both => ⟨_, He.eqO_ok (ex 5 rfl)⟩⟩
  have LT : LinT K (He.ga K "LINES") := ⟨fun r => match r with | .one => ⟨_, He.eqO_ok (ex 1 rfl), fun H => tupA_ok (ex 2 rfl) H⟩ | .two => ⟨_, He.eqO_ok (ex 3 rfl), fun H => tupA_ok (ex 4 rfl) H⟩ | .both => ⟨_, He.eqO_ok (ex 5 rfl), fun H => tupA_ok (ex 6 rfl) H⟩⟩
  have S : StC K mg (He.ga K "Station") := { g_Station := ⟨_, He.glo_ok X G (c.t.d.fact 65 (f := .glo "Station") rfl), rfl⟩, cl := He.cls_ok (c.t.d.fact 66 (f := .cls "Station") rfl), nI := He.noat_ok (c.t.d.fact 69 (f := .noat "Station" "own_ins") rfl), nO := He.noat_ok (c.t.d.fact 70 (f := .noat "Station" "own_outs") rfl), nS := He.noat_ok (c.t.d.fact 71 (f := .noat "Station" "own_standings") rfl) }
  have Y : YdF K (He.ga K "Yard") := { cl := He.cls_ok (c.t.d.fact 68 (f := .cls "Yard") rfl), nS := He.noat_ok (c.t.d.fact 72 (f := .noat "Yard" "own_stations") rfl), nP := He.noat_ok (c.t.d.fact 73 (f := .noat "Yard" "own_pipes") rfl), nX := He.noat_ok (c.t.d.fact 74 (f := .noat "Yard" "own_exits") rfl), nB := He.noat_ok (c.t.d.fact 75 (f := .noat "Yard" "own_begin") rfl), nI := He.noat_ok (c.t.d.fact 76 (f := .noat "Yard" "own_into") rfl), nO := He.noat_ok (c.t.d.fact 77 (f := .noat "Yard" "own_onto") rfl), me := He.conB_ok (ex 11 rfl) }
  have Y0 : YdC K mg (He.ga K "Yard") (.type "type") := { g_Yard := ⟨_, He.glo_ok X G (c.t.d.fact 67 (f := .glo "Yard") rfl), rfl⟩, cr := creB_ok (ex 9 rfl), ms := cvB_ok (ex 10 rfl) }
  have IC : IsaC K (He.ga K "Station") := isa_of (He.cls_ok (c.t.d.fact 66 (f := .cls "Station") rfl)) (ex 7 rfl)
  have ICY : IsaC K (He.ga K "Yard") := isa_of (He.cls_ok (c.t.d.fact 68 (f := .cls "Yard") rfl)) (ex 8 rfl)
  have neC : PySem.W.findIn K (.ref ((He.ga K "Station"))) "__ne__" = some (some (.builtin "object.__ne__")) := He.eqO_ok (ex 12 rfl)
  have neCY : PySem.W.findIn K (.ref ((He.ga K "Yard"))) "__ne__" = some (some (.builtin "object.__ne__")) := He.eqO_ok (ex 13 rfl)
  have bL := FunD.bindsA (ps := ["_law_script"]) G_law fun _ _ _ _ _ _ us hl => match us, hl with | [_], _ => rfl
  exact ⟨fd_law, fun s v => bL s [v] rfl, fun base _ _ => FY.all_mk T L LT S Y Y0 IC ICY neC neCY F_is_text (He.glo_ok X G (c.t.d.fact 0 (f := .glo "is_text") rfl)) F_is_text_of (He.glo_ok X G (c.t.d.fact 1 (f := .glo "is_text_of") rfl)) F_want_stream (He.glo_ok X G (c.t.d.fact 2 (f := .glo "want_stream") rfl)) F_law_draw (He.glo_ok X G (c.t.d.fact 3 (f := .glo "_law_draw") rfl)) F_law_pick (He.glo_ok X G (c.t.d.fact 4 (f := .glo "_law_pick") rfl)) F_law_pot (He.glo_ok X G (c.t.d.fact 5 (f := .glo "_law_pot") rfl)) F_law_stream (He.glo_ok X G (c.t.d.fact 6 (f := .glo "_law_stream") rfl)) F_is_integer (He.glo_ok X G (c.t.d.fact 7 (f := .glo "is_integer") rfl)) F_is_count (He.glo_ok X G (c.t.d.fact 8 (f := .glo "is_count") rfl)) F_is_below (He.glo_ok X G (c.t.d.fact 9 (f := .glo "is_below") rfl)) F_is_list (He.glo_ok X G (c.t.d.fact 10 (f := .glo "is_list") rfl)) F_is_row (He.glo_ok X G (c.t.d.fact 11 (f := .glo "is_row") rfl)) F_are_read (He.glo_ok X G (c.t.d.fact 12 (f := .glo "are_read") rfl)) F_is_standing_told (He.glo_ok X G (c.t.d.fact 13 (f := .glo "is_standing_told") rfl)) F_Station_init (He.mkr_ok (c.t.d.fact 14 (f := .mkr "Station") rfl)) F_Station_eq (He.meth_ok (c.t.d.fact 15 (f := .meth "Station" "__eq__") rfl)) F_want_stations (He.glo_ok X G (c.t.d.fact 16 (f := .glo "want_stations") rfl)) F_is_pipe (He.glo_ok X G (c.t.d.fact 17 (f := .glo "is_pipe") rfl)) F_want_pipes (He.glo_ok X G (c.t.d.fact 18 (f := .glo "want_pipes") rfl)) F_free_lines (He.glo_ok X G (c.t.d.fact 19 (f := .glo "free_lines") rfl)) F_Station_len (He.meth_ok (c.t.d.fact 20 (f := .meth "Station" "__len__") rfl)) F_Yard_len0 (He.meth_ok (c.t.d.fact 21 (f := .meth "Yard" "__len__") rfl)) F_is_begin (He.glo_ok X G (c.t.d.fact 22 (f := .glo "is_begin") rfl)) G_Yard_init (He.mkr_ok (c.t.d.fact 23 (f := .mkr "Yard") rfl)) F_Yard_len (He.meth_ok (c.t.d.fact 21 (f := .meth "Yard" "__len__") rfl)) F_text_at (He.glo_ok X G (c.t.d.fact 24 (f := .glo "text_at") rfl)) F_place_of (He.glo_ok X G (c.t.d.fact 25 (f := .glo "place_of") rfl)) F_begun (He.glo_ok X G (c.t.d.fact 26 (f := .glo "begun") rfl)) F_beat_row (He.glo_ok X G (c.t.d.fact 27 (f := .glo "beat_row") rfl)) F_has_room (He.glo_ok X G (c.t.d.fact 28 (f := .glo "has_room") rfl)) F_is_possible (He.glo_ok X G (c.t.d.fact 29 (f := .glo "is_possible") rfl)) F_possible (He.glo_ok X G (c.t.d.fact 30 (f := .glo "possible") rfl)) F_after_beat (He.glo_ok X G (c.t.d.fact 31 (f := .glo "after_beat") rfl)) F_are_sizes (He.glo_ok X G (c.t.d.fact 32 (f := .glo "are_sizes") rfl)) F_want_sizes (He.glo_ok X G (c.t.d.fact 33 (f := .glo "want_sizes") rfl)) F_is_state (He.glo_ok X G (c.t.d.fact 34 (f := .glo "is_state") rfl)) F_want_state (He.glo_ok X G (c.t.d.fact 35 (f := .glo "want_state") rfl)) G_can_be_done (He.glo_ok X G (c.t.d.fact 36 (f := .glo "can_be_done") rfl)) F_is_listT (He.glo_ok X G (c.t.d.fact 10 (f := .glo "is_list") rfl)) F_fault_ofL (He.glo_ok X G (c.t.d.fact 37 (f := .glo "fault_of") rfl)) F_fault_ofT (He.glo_ok X G (c.t.d.fact 37 (f := .glo "fault_of") rfl)) F_fault_of (He.glo_ok X G (c.t.d.fact 37 (f := .glo "fault_of") rfl)) F_behind_run (He.glo_ok X G (c.t.d.fact 38 (f := .glo "behind_run") rfl)) G_is_run (He.glo_ok X G (c.t.d.fact 39 (f := .glo "is_run") rfl)) G_state_behind (He.glo_ok X G (c.t.d.fact 40 (f := .glo "state_behind") rfl)) G_is_full (He.glo_ok X G (c.t.d.fact 41 (f := .glo "is_full") rfl)) G_finished (He.glo_ok X G (c.t.d.fact 42 (f := .glo "finished") rfl)) G_full_run (He.glo_ok X G (c.t.d.fact 43 (f := .glo "full_run") rfl)) G_end (He.glo_ok X G (c.t.d.fact 44 (f := .glo "end") rfl)) F_flows (He.glo_ok X G (c.t.d.fact 45 (f := .glo "flows") rfl)) F_law_row (He.glo_ok X G (c.t.d.fact 46 (f := .glo "_law_row") rfl)) F_law_station (He.glo_ok X G (c.t.d.fact 47 (f := .glo "_law_station") rfl)) F_law_plan (He.glo_ok X G (c.t.d.fact 48 (f := .glo "_law_plan") rfl)) F_law_yard (He.glo_ok X G (c.t.d.fact 49 (f := .glo "_law_yard") rfl)) F_law_wires (He.glo_ok X G (c.t.d.fact 50 (f := .glo "_law_wires") rfl)) F_law_begin (He.glo_ok X G (c.t.d.fact 51 (f := .glo "_law_begin") rfl)) F_law_row_at (He.glo_ok X G (c.t.d.fact 52 (f := .glo "_law_row_at") rfl)) F_law_can (He.glo_ok X G (c.t.d.fact 53 (f := .glo "_law_can") rfl)) F_law_able (He.glo_ok X G (c.t.d.fact 54 (f := .glo "_law_able") rfl)) F_law_behind (He.glo_ok X G (c.t.d.fact 55 (f := .glo "_law_behind") rfl)) F_law_first_run (He.glo_ok X G (c.t.d.fact 56 (f := .glo "_law_first_run") rfl)) F_law_drawn_run (He.glo_ok X G (c.t.d.fact 57 (f := .glo "_law_drawn_run") rfl)) F_law_counts (He.glo_ok X G (c.t.d.fact 58 (f := .glo "_law_counts") rfl)) F_law_states (He.glo_ok X G (c.t.d.fact 59 (f := .glo "_law_states") rfl)) F_fault_ofN (He.glo_ok X G (c.t.d.fact 37 (f := .glo "fault_of") rfl)) G_is_runN (He.glo_ok X G (c.t.d.fact 39 (f := .glo "is_run") rfl)) F_Yard_eq (He.meth_ok (c.t.d.fact 60 (f := .meth "Yard" "__eq__") rfl)) F_law_ends_right (He.glo_ok X G (c.t.d.fact 61 (f := .glo "_law_ends_right") rfl)) F_law_less_right (He.glo_ok X G (c.t.d.fact 62 (f := .glo "_law_less_right") rfl)) F_law_right (He.glo_ok X G (c.t.d.fact 63 (f := .glo "_law_right") rfl)) F_law (He.glo_ok X G (c.t.d.fact 64 (f := .glo "law") rfl)) (He.cls_ok (c.t.d.fact 66 (f := .cls "Station") rfl)) (He.glo_ok X G (c.t.d.fact 65 (f := .glo "Station") rfl)) (He.cls_ok (c.t.d.fact 68 (f := .cls "Yard") rfl)) (He.glo_ok X G (c.t.d.fact 67 (f := .glo "Yard") rfl))⟩
end FYH

set_option Elab.async false
set_option linter.all false
set_option maxRecDepth 100000
set_option maxHeartbeats 4000000
/-! the end of a law row whose defs know that no repr is under way (FnG), with tables of code objects -/
namespace FYR
open PySem PySem.Spec PyProof.Rows L2
abbrev tobj : Obj := { cls := .none, data := .fields #[] }
abbrev sobj (vs : List Value) : Obj := { cls := .type "list", data := .seq vs.toArray }
open Classical in
/-- what is tracked when the law is called: the tables, and the script where it is not written -/
noncomputable def hp0 (K : PySem.W.Frag) (Ts : List Addr) (a : Addr) (vs : List Value) (xs : List V) : Hp := fun b => if b ∈ Ts then some (.tbl #[]) else if b = a ∧ K.lookup a = none then some (.frz (sobj vs) (.lst xs)) else none
section
variable {K : PySem.W.Frag} {Ts : List Addr} {a : Addr} {vs : List Value} {xs : List V}
theorem hp0_tab {b : Addr} (h : b ∈ Ts) : hp0 K Ts a vs xs b = some (.tbl #[]) := if_pos h
theorem hp0_scr (h : a ∉ Ts) (hk : K.lookup a = none) : hp0 K Ts a vs xs a = some (.frz (sobj vs) (.lst xs)) := (if_neg h).trans (if_pos ⟨rfl, hk⟩)
theorem hp0_or (b : Addr) : hp0 K Ts a vs xs b = none ∨ (b ∈ Ts ∧ hp0 K Ts a vs xs b = some (.tbl #[])) ∨ (b ∉ Ts ∧ b = a ∧ K.lookup a = none ∧ hp0 K Ts a vs xs b = some (.frz (sobj vs) (.lst xs))) := by
  by_cases h : b ∈ Ts
  · exact .inr (.inl ⟨h, hp0_tab h⟩)
  by_cases g : b = a ∧ K.lookup a = none
  · obtain ⟨rfl, g⟩ := g
    exact .inr (.inr ⟨h, rfl, g, hp0_scr h g⟩)
  · exact .inl ((if_neg h).trans (if_neg g))
end
theorem law_callTG {P : Program} {w : World} {K : PySem.W.Frag} {mg mb : Str → Option Value} {k : Nat} {fa a : Addr} {cs : List (Addr × Addr)} {fd : FuncData} {x : Str} {sp : Sp} {s₁ : Shared} {vs : List Value} {ns : List Int}
    (KX : K.In s₁.heap) (hns : s₁.heap.Ns mainGlobals mg) (hb : s₁.heap.Ns builtinsNs mb) (hbb : ∀ x : Str, x ≠ "__name__" → mb x = bootBuiltins x) (hlim : s₁.heap.NoLimit) (hg : s₁.gens = #[])
    (hT : ∀ p ∈ cs, s₁.heap.get? p.2 = some tobj) (nT : ∀ p ∈ cs, K.lookup p.2 = none) (C : ∀ p ∈ cs, PySem.W.CodeHd s₁.heap p.1 p.2)
    (hbm : ∃ (bm : Addr) (ob : Obj), mg "__builtins__" = some (.ref bm) ∧ bm ≠ builtinsNs ∧ s₁.heap.get? bm = some ob ∧ ob.cls = .type "module" ∧ ob.dict = some builtinsNs ∧ ob.data = .plain)
    (ha : s₁.heap.get? a = some (sobj vs)) (hi : IntsAre vs ns) (hl : ns.length ≤ sizeLine) (hr : Room k callerA)
    (F : ∀ base : Heap, K.In base → base.Ns mainGlobals mg → (∀ p ∈ cs, LamX.TabB base mg p.1 p.2) → FnG P w K mg base k fa fd [x] sp) (hbind : ∀ (s : Shared) (u : Value), BindsTo s fd ⟨[u], []⟩ [(x, u)])
    (hsp : ∀ H : Hp, (∀ p ∈ cs, H p.2 = some (.tbl #[])) → SqL K H a (ns.map V.int) → sp [.ref a] H (fun v _ => v = .bl true) fun _ _ _ => False) :
    codeAny (model P w) callerA (.call (.ref fa) ⟨[.ref a], []⟩) (fun r s' => r = .ok (.ret (.bool true)) ∧ OldK s₁.heap s'.heap ∧ s'.os = s₁.os ∧ AllBare s'.gens) s₁ := by
  have rv := vals_ints hi
  -- the tables' addresses
  generalize eT : cs.map (·.2) = Ts
  have inT : ∀ p ∈ cs, p.2 ∈ Ts := fun p hp => eT ▸ List.mem_map_of_mem hp
  have ofT : ∀ b ∈ Ts, ∃ p ∈ cs, p.2 = b := fun b h => List.mem_map.mp (eT ▸ h)
  have tabT : ∀ b ∈ Ts, s₁.heap.get? b = some tobj := fun b h => by obtain ⟨p, hp, e⟩ := ofT b h; rw [← e]; exact hT p hp
  have aT : a ∉ Ts := fun h => by
    have e := ha.symm.trans (tabT a h)
    exact nomatch (congrArg Obj.data (Option.some.inj e))
  generalize eH : hp0 K Ts a vs (ns.map V.int) = H
  have hH : ∀ p ∈ cs, H p.2 = some (.tbl #[]) := fun p hp => eH ▸ hp0_tab (inT p hp)
  have or3 : ∀ b, H b = none ∨ (b ∈ Ts ∧ H b = some (.tbl #[])) ∨ (b ∉ Ts ∧ b = a ∧ K.lookup a = none ∧ H b = some (.frz (sobj vs) (.lst (ns.map V.int)))) := fun b => eH ▸ hp0_or b
  have hok : HOk P w H s₁.heap := fun b u e => by
    rcases or3 b with z | ⟨m, z⟩ | ⟨_, rfl, _, z⟩
    · rw [z] at e; cases e
    · rw [z] at e; cases e; exact tabT b m
    · rw [z] at e; cases e
      exact ⟨ha, by rw [List.length_map]; exact hl, vs, _, rv, ha⟩
  have hS : SqL K H a (ns.map V.int) := by
    cases hk : K.lookup a with
    | none => exact .inl (.inr ⟨sobj vs, eH ▸ hp0_scr aT hk⟩)
    | some o =>
      have e := (KX a o hk).symm.trans ha
      cases e
      exact .inr ⟨_, vs.toArray, _, hk, rfl, rfl, rfl, by rw [List.size_toArray, hi.length]; exact hl, by simpa using rv⟩
  -- other kinds of objects are not tracked
  have free : ∀ {b : Addr} {o : Obj}, s₁.heap.get? b = some o → (∀ us n, o.data ≠ .seq us n) → o.data ≠ .fields #[] → H b = none := fun {b o} e n1 n2 => by
    rcases or3 b with z | ⟨m, _⟩ | ⟨_, rfl, _, _⟩
    · exact z
    · have q := e.symm.trans (tabT b m); cases q; exact absurd rfl n2
    · have q := e.symm.trans ha; cases q; exact absurd rfl (n1 _ _)
  have freeD : ∀ {b : Addr} {o : Obj} {es : Array DictEntry} {ep : Nat}, s₁.heap.get? b = some o → o.data = .dict es ep → H b = none := fun {b o es ep} e d => free e (fun us n z => nomatch (d.symm.trans z)) (fun z => nomatch (d.symm.trans z))
  generalize eB : hidT s₁.heap H = base
  have toB : ∀ {b : Addr} {o : Obj}, s₁.heap.get? b = some o → H b = none → base.get? b = some o := fun e n => eB ▸ hidT_get e n
  have nsB : ∀ {b : Addr} {m : Str → Option Value}, s₁.heap.Ns b m → base.Ns b m := fun {b m} ⟨o, es, ep, e, d, r⟩ => ⟨o, es, ep, toB e (freeD e d), d, r⟩
  have KB : K.In base := fun b o e => toB (KX b o e) (by
    rcases or3 b with z | ⟨m, _⟩ | ⟨_, rfl, hk, _⟩
    · exact z
    · obtain ⟨p, hp, rfl⟩ := ofT b m
      rw [nT p hp] at e; cases e
    · rw [hk] at e; cases e)
  have TB : ∀ p ∈ cs, LamX.TabB base mg p.1 p.2 := fun p hp => by
    obtain ⟨bm, ob, b1, b2, b3, b4, b5, b6⟩ := hbm
    obtain ⟨og, esg, epg, eg, dg, _⟩ := id hns
    obtain ⟨o, us, file, tf, flags, tg, inF, text, tt, e1, r1, r2, r3, r⟩ := C p hp
    refine ⟨⟨o, us, file, tf, flags, tg, inF, text, tt, toB e1 (free e1 (fun vs n z => nomatch (r2.symm.trans z)) fun z => ?_), r1, r2, r3, r⟩, ⟨bm, ob, b1, b2, fun z => ?_, fun z => ?_, toB b3 (free b3 (fun vs n z => nomatch (b6.symm.trans z)) (fun z => nomatch (b6.symm.trans z))), b4, b5, b6⟩, fun z => ?_⟩
    · rw [r2] at z
      cases z
      simp at r3
    · rw [z] at b3
      have q := b3.symm.trans eg
      cases q
      exact nomatch (b6.symm.trans dg)
    · rw [z] at b3
      have q := b3.symm.trans (hT p hp)
      cases q
      cases b6
    · rw [z] at eg
      have q := eg.symm.trans (hT p hp)
      cases q
      cases dg
  have MB : Mod K mg base := ⟨KB, nsB hns, ⟨mb, nsB hb, hbb⟩, let ⟨mc, h1, h2⟩ := hlim; ⟨mc, nsB h1, h2⟩⟩
  have e0 : Env0 P w K mg base callerA [] s₁ H := ⟨rfl, MB, fun b o e => of_hidT (eB ▸ e), (eB ▸ Nat.le_of_eq (hidT_size _ _)), trivial, (fun b z => nomatch z), hok, .of_eq hg⟩
  have run := (F base KB (nsB hns) TB).run callerA [] s₁ H ⟨[.ref a], []⟩ [.ref a] [.ref a] _ _ rfl hr e0 (hbind s₁ (.ref a)) (.cons rfl .nil) (hsp H hH hS)
  refine codeAny_mono run fun r s' h => ?_
  match r, h with
  | .ok (.ret u), ⟨v, H', os, bare, un, hok', ru, q⟩ =>
    obtain rfl : v = .bl true := q
    obtain rfl : u = Value.bool true := ru
    have kept : ∀ b o, b ∉ Ts → s₁.heap.get? b = some o → s'.heap.get? b = some o := fun b o nb e => by
      rcases or3 b with z | ⟨m, _⟩ | ⟨_, _, _, z⟩
      · exact un.keep b o e z (fun y => nomatch y) (by simp)
      · exact absurd m nb
      · have e1 := (hok b _ z).1
        have e2 := (hok' b _ (un.frzs b _ _ z)).1
        exact e2.trans (e1.symm.trans e)
    have grown : ∀ b ∈ Ts, ∃ more : Array Value, s'.heap.get? b = some { cls := .none, data := .fields more } := fun b m => by
      obtain ⟨p, hp, rfl⟩ := ofT b m
      obtain ⟨more, z⟩ := un.tbls p.2 #[] (hH p hp)
      exact ⟨_, hok' p.2 _ z⟩
    refine ⟨rfl, ⟨fun b o e => ?_, fun b o e => ?_⟩, os, bare⟩
    · by_cases m : b ∈ Ts
      · obtain ⟨more, hm⟩ := grown b m
        obtain ⟨p, hp, rfl⟩ := ofT b m
        have q := e.symm.trans (hT p hp)
        cases q
        exact .inr (.inl ⟨((C p hp).tab (hT p hp)).isCodeTable, rfl, #[], more, rfl, by rw [Array.empty_append]; exact hm⟩)
      · exact .inl (kept b o m e)
    · by_cases m : b ∈ Ts
      · obtain ⟨more, z⟩ := grown b m
        exact ⟨_, z⟩
      · exact ⟨o, kept b o m e⟩
theorem walkGT {l : PySem.W.OpenLaw} {n k : Nat} {q : Program} {loose : List Str} {XP : (Str → Option Value) → Heap → Prop} {YP : World → Heap → Prop} {d : DefRec} {x : Str}
    (hn : l.most = some n) (hn2 : n ≤ sizeLine) (hdf : d.params.defaults = []) (hr : Room k callerA)
    (F : ∀ (w : World) (mg mb : Str → Option Value) (fa : Addr) (h : Heap) (mean : ExcName → Option Value), PyProof.Rows.Top q (PySem.W.looseW q loose) mean mg mb h → YP w h → mg d.name = some (.ref fa) →
      ∃ (K : PySem.W.Frag) (fd : FuncData) (cs : List (Addr × Addr)) (sp : Sp), K.In h ∧ (∀ p ∈ cs, h.get? p.2 = some tobj) ∧ (∀ p ∈ cs, K.lookup p.2 = none) ∧ (∀ p ∈ cs, PySem.W.CodeHd h p.1 p.2) ∧ (∀ (s : Shared) (u : Value), BindsTo s fd ⟨[u], []⟩ [(x, u)]) ∧
        (∀ (H : Hp) (a : Addr) (ns : List Int), ns.length ≤ n → (∀ p ∈ cs, H p.2 = some (.tbl #[])) → SqL K H a (ns.map V.int) → sp [.ref a] H (fun v _ => v = .bl true) fun _ _ _ => False) ∧
        ∀ base : Heap, K.In base → base.Ns mainGlobals mg → (∀ p ∈ cs, LamX.TabB base mg p.1 p.2) → FnG l.prog w K mg base k fa fd [x] sp) :
    PySem.W.WalkO q loose XP YP l.row.toRowW d [] (fun f vs => PySem.call f vs) := by
  refine Att.attach_callB hn hdf fun w s₀ s₁ mg mb fa o pm cd doc a vs ns G Y ho hd hcd hmg hobj hints hlen hbits hg => ?_
  obtain ⟨K, fd, cs, sp, KX, hT, nT, C, hb, hsp, hF⟩ := F w mg mb fa _ _ G.T Y hmg
  exact law_callTG KX G.T.g G.T.b G.T.builtins G.T.nolimit hg hT nT C G.T.bmain hobj hints (Nat.le_trans hlen hn2) hr hF hb fun H hH hS => hsp H a ns hlen hH hS
end FYR

set_option Elab.async false
set_option linter.all false
open PySem PySem.W PySem.Calls PyProof.Rows
set_option maxRecDepth 100000 in
set_option maxHeartbeats 0 in
theorem PySem.Challenge.cw_flowyard_k15_whole_one_end_by_all_states_holds : PySem.Challenge.rw_flowyard_k15_whole_one_end_by_all_states.Holds := by
  w_on; o_law
  refine HandSHeadRun.head_any (r := FYH.R) (q := FYH.qv) (H := FYH.hd.hk) (ob := FYH.hd.ob) (M := 20000) (loose := FYH.nms) (d := HandSHeadRun.topDef FYH.R.prog 91) (kwd := []) FYH.hd.ob_eq
    (by kernel_rfl) (fun s => by kernel_rfl) FYH.run (by kernel_rfl) (by kernel_rfl) (by kernel_rfl) (by rfl) (by first | assumption | decide +kernel) (by decide +kernel) ⟨rfl, rfl, rfl, rfl, rfl, by decide +kernel⟩ ?hw ?hc
  case hw => w_witness2
  case hc =>
    refine FYR.walkGT (l := PySem.Challenge.rw_flowyard_k15_whole_one_end_by_all_states) (n := 63) (k := 11) (x := "_law_script") rfl (by decide) (by kernel_rfl) ⟨rfl, by decide, by decide⟩ ?F
    intro w mg mb fa h mean Tp Y hmg0
    obtain ⟨K, KX, c⟩ := Y
    have hmg : mg ("law" : PySem.Str) = some (.ref fa) := by
      have e : (HandSHeadRun.topDef FYH.R.prog 91).name = ("law" : PySem.Str) := by kernel_rfl
      rw [← e]
      exact hmg0
    obtain ⟨fd, hb, hF⟩ := FYH.facts (P := (PySem.Challenge.rw_flowyard_k15_whole_one_end_by_all_states).prog) (w := w) KX Tp.g hmg c
    exact ⟨K, fd, [], FY.spLaw15 K, KX, fun r hr => (nomatch hr), fun r hr => (nomatch hr), fun r hr => (nomatch hr), hb, fun H a ns hl hH hS => ⟨a, ns, rfl, hS, fun _ => rfl⟩, fun base h1 h2 _ => hF base h1 h2⟩

