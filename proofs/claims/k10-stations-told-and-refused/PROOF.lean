import PyProof.Rows.All
import Wide.All
import OpenK.AllK
import Wide.FinOn
import KE.KStateDown
import HandS.ForMost
import HandS.Words
import HandS.Defaults
import HandS.Property
import HandS.ClsMeth
import HandS.Head0
import HandS.Head1
import HandS.Head2
import HandS.HeadEnd
import HandS.HeadHook1
import HandS.HeadHook2
import HandS.HeadHook3
import HandS.HeadHook4
import HandS.ExcField
import HandS.ExcIs
import HandS.EndTab
import KE.KNest
import HandS.ExcInit
import PySem.Challenge.RW_flowyard_k10_stations_told_and_refused
import KE.KIsAll
import KE.KTryMore
import HandS.Base
import HandS.Call
import HandS.Exc
import PyProof.EqAt
import PyProof.EqKinds
import PyProof.TupleCall
import HandS.Codes
import HandS.Walk
import PyProof.ReprRoads
import PyProof.ReprText
import KE.KDictKeyed
import KE.KDictDisplayH
import KE.KDictLaw
import HandS.IsInst
import HandS.WideBits
import KE.GoesEnum
import KE.KDictZip
import KE.KDictItemsList
import HandS.ListItems
import HandS.More
import PyProof.NoPylong
import HandS.Star
import HandS.TupMul
import HandS.OwnEq
import HandS.Deep
import HandS.TupSets
import HandS.DictComp
import HandS.DictTup
import KE.GoesMore
import KE.KDictCopyH
import HandS.Style
import HandS.List
import KE.DataCmp
import HandS.TupAny
import HandS.Zip
import HandS.Dict
import HandS.SortInts
import HandS.NamedTupGet
import HandS.WordsExc
import HandS.ExcOwn
import HandS.RaiseMore
import HandS.IntHex
import HandS.Text
import HandS.FStr
import HandS.MakeKw
import HandS.Lambda
import HandS.MakeKwOnly
import PyProof.ReprNest
set_option Elab.async false
set_option linter.all false
set_option maxRecDepth 100000
set_option maxHeartbeats 0
/-! own head: a short list of addresses is looked at; the law's texts print the lists -/
namespace FYH
open PySem PySem.Spec PyProof.Rows L2
def refs1 (g : Addr → Option Obj) (a : Addr) : List Addr := match g a with
  | some o => He.refsO o
  | none => []
def lv (g : Addr → Option Obj) (as : List Addr) : List Addr := as.flatMap (refs1 g)
def gaN (g : Addr → Option Obj) (xs : List Str) : List Addr := xs.map (He.ga (He.frG g [mainGlobals]))
/-- the addresses that are looked at: defs, classes, tables by their names -/
def asN (ds cs tp : List Str) (g : Addr → Option Obj) : List Addr :=
  mainGlobals :: cStatics :: sysModules :: (gaN g ds ++ (lv g (gaN g ds) ++ (gaN g cs ++ (lv g (gaN g cs) ++ (lv g (lv g (gaN g cs)) ++ (lv g (lv g (lv g (gaN g cs))) ++ (lv g (lv g (lv g (lv g (gaN g cs)))) ++ (gaN g tp ++ lv g (gaN g tp)))))))))
/-! ### a def at an address -/
def fAt (K : PySem.W.Frag) (a : Addr) : He.FnW := match K.lookup a with
  | some o => (match o.data with
    | .func d => some (d.name, d.qualname, d.params, d.body, d.scope, d.globals, d.closure, d.builtins)
    | _ => none)
  | none => none
def fOk (K : PySem.W.Frag) (a : Addr) (q : Str) : Bool := PySem.W.keepIn K (.ref a) && match K.lookup a with
  | some o => (match o.data with
    | .func d => PySem.W.codeIn K d.code q && (match d.defaults with | .none => true | _ => false)
    | _ => false)
  | none => false
theorem fAt_fun {K : PySem.W.Frag} {a : Addr} {x q : Str} {st : Stmt} (e : fAt K a = some (x, q, defArgs st, .stmts (defBody st), defScope st, mainGlobals, [], builtinsNs)) (c : fOk K a q = true) : ∃ fd, Fun K x q st a fd := by
  obtain ⟨kp, c2⟩ := He.ba c
  unfold fAt at e
  cases h : K.lookup a with
  | none => rw [h] at e; cases e
  | some o =>
    rw [h] at c2 e
    obtain ⟨c1, c0, dt, sl⟩ := o
    cases dt with
    | func d =>
      obtain ⟨z1, z2, z3, z4, z5, z6, z7, z8, z9, z10, z11, z12, z13, z14, z15⟩ := d
      have e' : (some (z1, z2, z3, z4, z5, z6, z7, z15) : He.FnW) = _ := e
      have e'' := Option.some.inj e'
      simp only [Prod.mk.injEq] at e''
      obtain ⟨rfl, rfl, rfl, rfl, rfl, rfl, rfl, rfl⟩ := e''
      cases z8 with
      | none => exact ⟨_, ⟨c1, c0, z9, z10, z11, z12, z13, z14, sl, rfl, h, (He.ba (show (PySem.W.codeIn K z13 z2 && true) = true from c2)).1⟩, kp⟩
      | _ => exact Bool.noConfusion (He.ba (show (PySem.W.codeIn K z13 z2 && false) = true from c2)).2
    | _ => cases e
theorem fun_ofD {K : PySem.W.Frag} {x q : Str} {st : Stmt} {f : Addr} {fd : FuncData} (F : FunD K x q (defArgs st) (defBody st) (defScope st) [] [] f fd) : Fun K x q st f fd := by
  obtain ⟨oc, od, dV, kV, doc, pm, an, cdv, ct, osl, e, lk, hcd, hD, _⟩ := F.ex
  rcases hD with ⟨_, z⟩ | ⟨z, _⟩
  · subst z
    exact ⟨⟨oc, od, kV, doc, pm, an, cdv, ct, osl, e, lk, hcd⟩, F.kp⟩
  · exact absurd rfl z
/-- a def with defaults, all parameters given -/
theorem bindsF {K : PySem.W.Frag} {x q : Str} {pa : Arguments} {bo : List Stmt} {sc : Scope} {dvs : List V} {f : Addr} {fd : FuncData} {ps : List Str} (F : FunD K x q pa bo sc dvs [] f fd) (hd : dvs ≠ [])
    (h : ∀ (T : Addr) (kV doc pm : Value) (an : Option Addr) (cdv ct : Value) (us its : List Value), us.length = ps.length → its.length = dvs.length → ∃ k, bindArgs (PySem.W.fnOf x q pa bo sc (.ref T) kV doc pm an cdv ct) ⟨us, []⟩ = seqItems? (.ref T) >>= k ∧ k (some its.toArray) = pure (ps.zip (us ++ its.drop dvs.length))) : Binds K fd ps [] := by
  obtain ⟨ds, hv, hb⟩ := F.binds1 (ps := ps) ps.length dvs.length hd (by omega) h
  rw [List.drop_length] at hv
  cases hv
  exact hb
/-! ### properties -/
def prA (K : PySem.W.Frag) (c p : Str) : Addr := match PySem.W.recIn K (He.ma K (He.ga K c) p) "property" with
  | some (.ref g :: _) => g
  | _ => 0
def prB (K : PySem.W.Frag) (c p : Str) : Bool := He.eqO (PySem.W.findIn K (.ref (He.ga K c)) p) (some (some (.ref (He.ma K (He.ga K c) p)))) && (He.eqO (PySem.W.specialIn K (.ref (He.ma K (He.ga K c) p)) "__get__") (some (some (.builtin "property.__get__"))) && (decide (PySem.W.takesIn K (.ref (He.ma K (He.ga K c) p)) = some true) && match PySem.W.recIn K (He.ma K (He.ga K c) p) "property" with
  | some (.ref _ :: _) => true
  | _ => false))
theorem prB_ok {K : PySem.W.Frag} {c p : Str} (h : prB K c p = true) : PropOf K (He.ga K c) p (He.ma K (He.ga K c) p) (prA K c p) := by
  obtain ⟨h1, h⟩ := He.ba h
  obtain ⟨h2, h⟩ := He.ba h
  obtain ⟨h3, h4⟩ := He.ba h
  refine ⟨He.eqO_ok h1, He.eqO_ok h2, of_decide_eq_true h3, ?_⟩
  unfold prA
  cases e : PySem.W.recIn K (He.ma K (He.ga K c) p) "property" with
  | none => rw [e] at h4; cases h4
  | some l =>
    rw [e] at h4
    match l, h4 with
    | .ref g :: r, _ => exact ⟨r, rfl⟩
/-! ### tuples -/
def tupA (K : PySem.W.Frag) (a : Addr) (vs : List He.Dv) : Bool := match K.lookup a with
  | some o => (match o.data with
    | .seq its _ => decide (o.cls = .type "tuple") && (decide (its.size ≤ sizeLine) && He.relAll (vs.map (He.Dv.v K)) its.toList)
    | _ => false)
  | none => false
theorem tupA_ok {K : PySem.W.Frag} {a : Addr} {vs : List He.Dv} (h : tupA K a vs = true) (H : Hp) : SqT K H a (vs.map (He.Dv.v K)) := by
  unfold tupA at h
  cases q : K.lookup a with
  | none => rw [q] at h; cases h
  | some o =>
    rw [q] at h
    cases e : o.data with
    | seq its n =>
      simp only [e] at h
      obtain ⟨h1, h2⟩ := He.ba h
      obtain ⟨h3, h4⟩ := He.ba h2
      exact .inr ⟨o, its, n, q, of_decide_eq_true h1, e, of_decide_eq_true h3, He.relAll_ok h4⟩
    | _ => simp only [e] at h; cases h
/-- the value of a written dict at a key, an object -/
def kvA (K : PySem.W.Frag) (d : Addr) (k : Str) : Addr := match PySem.W.nsIn K d k with
  | some (some (.ref a)) => a
  | _ => 0
def kvB (K : PySem.W.Frag) (d : Addr) (k : Str) : Bool := He.eqO (PySem.W.nsIn K d k) (some (some (.ref (kvA K d k))))
/-! ### classes -/
def isaB (K : PySem.W.Frag) (C : Addr) : Bool := He.eqO (PySem.W.findIn K (.ref C) "__class__") (some (some (.builtin "object.__class__"))) && (He.eqO (PySem.W.specialIn K (.builtin "object.__class__") "__get__") (some (some (.builtin "getset_descriptor.__get__"))) && (decide (PySem.W.takesIn K (.builtin "object.__class__") = some true) && decide (PySem.W.mroIn K C (.type "object") = some true)))
def creB (K : PySem.W.Frag) (C : Addr) : Bool := PySem.W.readsIn K C (.type "type") && He.eqO (PySem.W.specialIn K (.ref C) "__getattribute__") (some (some (.builtin "type.__getattribute__")))
theorem creB_ok {K : PySem.W.Frag} {C : Addr} (h : creB K C = true) : ClX.CRead K C (.type "type") := ⟨(He.ba h).1, He.eqO_ok (He.ba h).2⟩
def cvB (K : PySem.W.Frag) (C : Addr) (f : Str) (v : V) : Bool := match PySem.W.findCls K (.ref C) (.type "type") f with
  | some (.val u) => He.relB v u
  | _ => false
theorem cvB_ok {K : PySem.W.Frag} {C : Addr} {f : Str} {v : V} (h : cvB K C f v = true) : ∃ u, ClX.CVal K C (.type "type") f v u := by
  unfold cvB at h
  cases e : PySem.W.findCls K (.ref C) (.type "type") f with
  | none => rw [e] at h; cases h
  | some x =>
    rw [e] at h
    cases x with
    | val u => exact ⟨u, e, He.relB_ok h⟩
    | _ => cases h
/-! ### the Hook -/
abbrev AlN : Type := (He.AlT × List He.FnW) × Bool
/-- a property's getter: class, name, its text -/
abbrev PrD : Type := Str × Str × Str × Stmt
def prV (d : PrD) : He.FnW := some (d.2.1, d.2.2.1, defArgs d.2.2.2, .stmts (defBody d.2.2.2), defScope d.2.2.2, mainGlobals, [], builtinsNs)
def prAll (pr : List PrD) (K : PySem.W.Frag) : Bool := pr.all fun d => prB K d.1 d.2.1 && fOk K (prA K d.1 d.2.1) d.2.2.1
structure Hd where
  ds : List Str
  cs : List Str
  tp : List Str
  fa : List He.Fa
  fn : List He.DefD
  ts : List He.Tab
  pr : List PrD
  ex : PySem.W.Frag → Bool
def Hd.obK (h : Hd) (K : PySem.W.Frag) : AlN := ((He.obsT h.fa h.fn h.ts K, h.pr.map fun d => fAt K (prA K d.1 d.2.1)), h.ex K && prAll h.pr K)
def Hd.obG (h : Hd) (g : Addr → Option Obj) : AlN := h.obK (He.frG g (asN h.ds h.cs h.tp g))
def Hd.val (h : Hd) (w : World) : AlN := ((He.valT h.fn h.ts w, h.pr.map prV), true)
def Hd.Says (h : Hd) (w : World) (K : PySem.W.Frag) : Prop := h.obK K = h.val w
def Hd.hk (h : Hd) : PySem.W.Hook where
  α := AlN
  obs := fun s => h.obG s.heap.get?
  val := fun w => h.val w
  says := fun w hp => ∃ K : PySem.W.Frag, K.In hp ∧ h.Says w K
  of := fun _ _ e => ⟨_, He.frG_in, e⟩
  keeps := fun _ _ _ ⟨K, hK, c⟩ k => ⟨K, PySem.W.Frag.In.keeps hK k, c⟩
def Hd.ob (h : Hd) (s : PySem.W.SharedT) : AlN := h.obG (HandSHeadRun.getT s)
theorem Hd.ob_eq (h : Hd) (s : PySem.W.SharedT) : h.ob s = h.hk.obs s.abs := by
  have e : HandSHeadRun.getT s = s.abs.heap.get? := funext (HandSHeadRun.getT_eq s)
  unfold Hd.ob
  rw [e]
  rfl
section
variable {h : Hd} {w : World} {K : PySem.W.Frag}
theorem Hd.Says.t (c : h.Says w K) : He.SaysT h.fa h.fn h.ts w K := congrArg (fun z : AlN => z.1.1) c
theorem Hd.Says.ex (c : h.Says w K) : h.ex K = true := (He.ba (show (h.ex K && prAll h.pr K) = true from congrArg (fun z : AlN => z.2) c)).1
theorem Hd.Says.prop (c : h.Says w K) {d : PrD} (hd : d ∈ h.pr) : ∃ fd, PropOf K (He.ga K d.1) d.2.1 (He.ma K (He.ga K d.1) d.2.1) (prA K d.1 d.2.1) ∧ Fun K d.2.1 d.2.2.1 d.2.2.2 (prA K d.1 d.2.1) fd := by
  have c2 := (He.ba (show (h.ex K && prAll h.pr K) = true from congrArg (fun z : AlN => z.2) c)).2
  obtain ⟨p1, p2⟩ := He.ba (List.all_eq_true.mp c2 d hd)
  have e : h.pr.map (fun d => fAt K (prA K d.1 d.2.1)) = h.pr.map prV := congrArg (fun z : AlN => z.1.2) c
  obtain ⟨i, hi⟩ := List.mem_iff_getElem?.mp hd
  have e2 : (h.pr.map fun d => fAt K (prA K d.1 d.2.1))[i]? = (h.pr.map prV)[i]? := by rw [e]
  rw [List.getElem?_map, List.getElem?_map, hi] at e2
  obtain ⟨fd, F⟩ := fAt_fun (Option.some.inj e2) p2
  exact ⟨fd, prB_ok p1, F⟩
end
/-- the run's equation from its parts -/
theorem join3 {α β γ δ : Type} {o : Option α} {f : α → β} {g : α → γ} {k : α → δ} {x : β} {y : γ} {z : δ} (h1 : o.map f = some x) (h2 : o.map g = some y) (h3 : o.map k = some z) : o.map (fun s => (f s, g s, k s)) = some (x, y, z) := by
  cases o with
  | none => cases h1
  | some a =>
    cases h1
    cases h2
    cases h3
    rfl
end FYH

set_option Elab.async false
set_option linter.all false
set_option maxRecDepth 100000
set_option maxHeartbeats 0
/-! the head's looks for own exceptions and for tables of code objects -/
namespace FYH
open PySem PySem.Spec PyProof.Rows L2
def clB (C : Addr) : Data → Bool
  | .cls d => decide (d.hasDict = true) && (decide (d.hasDel = false) && (decide (d.mro = .ref C :: d.mro.tail) && PySem.HandSPX.refsVE d.mro.tail))
  | _ => false
def slB (nb : String) : List (Option Value) → Bool
  | [_, _, _, _, some n, _] => decide (n = .builtin nb)
  | _ => false
def obB (C : Addr) (nb : String) : Option Obj → Bool
  | some o => decide (o.cls = .type "type") && (clB C o.data && slB nb o.slots.toList)
  | none => false
theorem obB_ok {K : PySem.W.Frag} {C : Addr} {nb : String} (h : obB C nb (K.lookup C) = true) : ∃ nm q N bs bm sn sub ab col dd k0 k1 k2 k3 k5, K.lookup C = some (excClassObj nm q C N bs bm true sn sub ab col dd k0 k1 k2 k3 k5 nb) ∧ PySem.HandSPX.refsVE bm = true := by
  cases e : K.lookup C with
  | none => rw [e] at h; cases h
  | some o =>
    rw [e] at h
    obtain ⟨c, dd, dt, ⟨sl⟩⟩ := o
    obtain ⟨h1, h⟩ := He.ba h
    obtain ⟨h2, h3⟩ := He.ba h
    obtain rfl : c = .type "type" := of_decide_eq_true h1
    cases dt with
    | cls d =>
      obtain ⟨nm, bs, mro, N, q, hd, sn, sub, ab, col, del⟩ := d
      obtain ⟨g1, g⟩ := He.ba h2
      obtain ⟨g2, g⟩ := He.ba g
      obtain ⟨g3, g4⟩ := He.ba g
      have e1 : hd = true := of_decide_eq_true g1
      have e2 : del = false := of_decide_eq_true g2
      have e3 : mro = .ref C :: mro.tail := of_decide_eq_true g3
      subst e1
      subst e2
      match sl, h3 with
      | [k0, k1, k2, k3, some n, k5], h3 =>
        obtain rfl : n = .builtin nb := of_decide_eq_true h3
        refine ⟨nm, q, N, bs, mro.tail, sn, sub, ab, col, dd, k0, k1, k2, k3, k5, ?_, g4⟩
        unfold excClassObj
        rw [← e3]
    | _ => cases h2
def oexCB (K : PySem.W.Frag) (C : Addr) : Bool := obB C "ValueError.__new__" (K.lookup C) && (He.eqO (PySem.W.findIn K (.ref C) "__setattr__") (some (some (.builtin "object.__setattr__"))) && (decide (PySem.W.subIn K (.ref C) (.type "BaseException") = some true) && (decide (PySem.W.typeIn K (.ref C) = some (.type "type")) && PySem.W.keepIn K (.ref C))))
theorem oexCB_ok {K : PySem.W.Frag} {C : Addr} (h : oexCB K C = true) : OexC K C := by
  obtain ⟨h1, h⟩ := He.ba h
  obtain ⟨h2, h⟩ := He.ba h
  obtain ⟨h3, h⟩ := He.ba h
  obtain ⟨h4, h5⟩ := He.ba h
  exact ⟨obB_ok h1, He.eqO_ok h2, of_decide_eq_true h3, of_decide_eq_true h4, h5⟩
def excCB (K : PySem.W.Frag) (D : Addr) : Bool := xfB K D && (He.eqO (PySem.W.findIn K (.ref D) "__class__") (some (some (.builtin "object.__class__"))) && (He.eqO (PySem.W.specialIn K (.builtin "object.__class__") "__get__") (some (some (.builtin "getset_descriptor.__get__"))) && (decide (PySem.W.takesIn K (.builtin "object.__class__") = some true) && decide (PySem.W.mroIn K D (.type "object") = some true))))
theorem excCB_ok {K : PySem.W.Frag} {D : Addr} (h : excCB K D = true) : ExcC K D := by
  obtain ⟨h1, h⟩ := He.ba h
  obtain ⟨h2, h⟩ := He.ba h
  obtain ⟨h3, h⟩ := He.ba h
  obtain ⟨h4, h5⟩ := He.ba h
  have x := xfB_ok h1
  exact ⟨x.ga, x.gg, x.exC, x.hdC, He.eqO_ok h2, He.eqO_ok h3, of_decide_eq_true h4, of_decide_eq_true h5⟩
def fcB (K : PySem.W.Frag) (C : Addr) (f : Str) (b : String) : Bool := match PySem.W.findCls K (.ref C) (.type "type") f with
  | some (.val v) => decide (v = .builtin b)
  | _ => false
theorem fcB_ok {K : PySem.W.Frag} {C : Addr} {f : Str} {b : String} (h : fcB K C f b = true) : PySem.W.findCls K (.ref C) (.type "type") f = some (.val (.builtin b)) := by
  unfold fcB at h
  cases e : PySem.W.findCls K (.ref C) (.type "type") f with
  | none => rw [e] at h; cases h
  | some x =>
    rw [e] at h
    cases x with
    | val v => rw [of_decide_eq_true h]
    | _ => cases h
def fcR (K : PySem.W.Frag) (C : Addr) (f : Str) (a : Addr) : Bool := match PySem.W.findCls K (.ref C) (.type "type") f with
  | some (.val v) => decide (v = .ref a)
  | _ => false
theorem fcR_ok {K : PySem.W.Frag} {C : Addr} {f : Str} {a : Addr} (h : fcR K C f a = true) : PySem.W.findCls K (.ref C) (.type "type") f = some (.val (.ref a)) := by
  unfold fcR at h
  cases e : PySem.W.findCls K (.ref C) (.type "type") f with
  | none => rw [e] at h; cases h
  | some x =>
    rw [e] at h
    cases x with
    | val v => rw [of_decide_eq_true h]
    | _ => cases h
def fcT (K : PySem.W.Frag) (C : String) (f : Str) (b : String) : Bool := match PySem.W.findCls K (.type C) (.type "type") f with
  | some (.val v) => decide (v = .builtin b)
  | _ => false
theorem fcT_ok {K : PySem.W.Frag} {C : String} {f : Str} {b : String} (h : fcT K C f b = true) : PySem.W.findCls K (.type C) (.type "type") f = some (.val (.builtin b)) := by
  unfold fcT at h
  cases e : PySem.W.findCls K (.type C) (.type "type") f with
  | none => rw [e] at h; cases h
  | some x =>
    rw [e] at h
    cases x with
    | val v => rw [of_decide_eq_true h]
    | _ => cases h
/-! ### tables -/
def tC (K : PySem.W.Frag) (x : Str) : Addr := match PySem.W.tabIn K x with | some p => p.1 | none => 0
def tP (K : PySem.W.Frag) (x : Str) : Addr := match PySem.W.tabIn K x with | some p => p.2 | none => 0
def tabB (K : PySem.W.Frag) (x : Str) : Bool := (PySem.W.tabIn K x).isSome && (K.lookup (tP K x)).isNone
theorem tabB_ok {K : PySem.W.Frag} {x : Str} (h : tabB K x = true) : PySem.W.tabIn K x = some (tC K x, tP K x) ∧ K.lookup (tP K x) = none := by
  obtain ⟨h1, h2⟩ := He.ba h
  refine ⟨?_, Option.isNone_iff_eq_none.mp h2⟩
  unfold tC tP
  cases e : PySem.W.tabIn K x with
  | none => rw [e] at h1; cases h1
  | some p => rfl
theorem code_of {K : PySem.W.Frag} {x q : Str} {st : Stmt} {fd : FuncData} (F : Fun K x q st (He.ga K x) fd) (h : tabB K x = true) : fd.code = .ref (tC K x) := by
  obtain ⟨e, _⟩ := tabB_ok h
  obtain ⟨oc, od, kV, doc, pm, an, cdv, ct, osl, rfl, lk, hcd⟩ := F.ex
  unfold PySem.W.tabIn at e
  cases g : PySem.W.nsIn K mainGlobals x with
  | none => rw [g] at e; cases e
  | some o =>
    cases o with
    | none => rw [g] at e; cases e
    | some v =>
      cases v with
      | ref a =>
        have ea : He.ga K x = a := by unfold He.ga; rw [g]
        rw [ea] at lk
        rw [g] at e
        simp only [lk] at e
        show cdv = _
        cases cdv with
        | ref c =>
          dsimp only at e
          split at e
          · split at e
            · exact congrArg Value.ref (Prod.mk.inj (Option.some.inj e)).1
            · cases e
          · cases e
        | _ => cases e
      | _ => rw [g] at e; cases e
end FYH

set_option Elab.async false
set_option linter.all false
set_option maxRecDepth 100000
set_option maxHeartbeats 0
namespace FYH
open PySem PySem.Spec PyProof.Rows L2
def top (i : Nat) : Stmt := PySem.Challenge.pw_flowyard_k10_stations_told_and_refused.main.body.getD i (.Pass ⟨0, 0, 0, 0⟩)
def nms0 : List Str := ["__name__", "SIGNS", "is_integer", "is_count", "is_below", "is_sign", "is_text", "is_list", "is_text_of", "FlowError", "InvalidIns", "InvalidOuts", "InvalidStanding", "InvalidText", "InvalidStandings"]
def nms1 : List Str := ["MOST_STANDINGS", "MOST_GIVEN", "MOST_TICKS", "LINES", "is_row", "are_read", "is_standing_told", "place_of", "Station", "want_standing", "_law_pot", "_law_draw", "_law_pick", "_law_text", "_law_row"]
def nms2 : List Str := ["_law_model", "_law_heard", "_law_odd_rows", "_law_odd_standings", "_law_made", "_law_unlike", "_law_all_unlike", "_law_basics_right", "_law_right"]
def nms : List Str := nms0 ++ nms1 ++ nms2
def dsN0 : List Str := ["_law_draw", "_law_pick", "_law_pot", "is_integer", "is_count", "is_below", "is_text", "is_text_of", "is_list", "are_read", "is_row", "is_standing_told", "want_standing", "place_of", "_law_text"]
def dsN1 : List Str := ["_law_row", "_law_model", "_law_odd_rows", "_law_odd_standings", "_law_made", "_law_unlike", "_law_all_unlike", "_law_refused_right", "_law_rows_right", "is_sign", "_law_basics_right", "_law_right", "law", "_law_heard"]
def dsN : List Str := dsN0 ++ dsN1
def csN0 : List Str := ["Station", "FlowError", "InvalidIns", "InvalidOuts", "InvalidStanding", "InvalidText", "InvalidStandings"]
def csN : List Str := csN0
def tpN0 : List Str := ["SIGNS", "LINES"]
def tpN : List Str := tpN0
def fa0 : List He.Fa := [.glo "_law_draw", .glo "_law_pick", .glo "_law_pot", .meth "Station" "__eq__", .glo "is_integer", .glo "is_count", .glo "is_below", .glo "is_text", .glo "is_text_of", .glo "is_list", .glo "are_read", .glo "is_row", .glo "is_standing_told", .glo "want_standing", .meth "Station" "reads"]
def fa1 : List He.Fa := [.glo "place_of", .meth "Station" "row", .mkr "Station", .meth "Station" "standings", .meth "Station" "__len__", .meth "Station" "__repr__", .glo "_law_text", .glo "_law_row", .glo "_law_model", .glo "_law_odd_rows", .glo "_law_odd_standings", .glo "_law_made", .glo "_law_unlike", .glo "_law_all_unlike", .glo "_law_refused_right"]
def fa2 : List He.Fa := [.glo "_law_rows_right", .glo "is_sign", .glo "_law_basics_right", .glo "_law_right", .glo "law", .glo "_law_heard", .glo "Station", .cls "Station", .glo "FlowError", .glo "InvalidIns", .glo "InvalidOuts", .glo "InvalidStanding", .glo "InvalidText", .glo "InvalidStandings", .noat "Station" "own_ins"]
def fa3 : List He.Fa := [.noat "Station" "own_outs", .noat "Station" "own_standings", .free "len", .free "isinstance", .free "all", .free "sum", .free "abs", .free "max", .free "min", .free "divmod", .free "repr", .free "int", .free "str", .free "tuple", .free "list"]
def fa4 : List He.Fa := [.free "zip", .free "range", .free "dict", .free "bool", .free "enumerate", .free "sorted", .free "any", .free "ValueError", .int "MOST_STANDINGS" 4, .int "MOST_GIVEN" 2, .int "MOST_TICKS" 9, .glo "SIGNS", .glo "LINES"]
def fa : List He.Fa := fa0 ++ fa1 ++ fa2 ++ fa3 ++ fa4
def fn0 : List He.DefD := [⟨("_law_draw", none), "_law_draw", "_law_draw", defArgs (top 29), defBody (top 29), defScope (top 29), [], []⟩, ⟨("_law_pick", none), "_law_pick", "_law_pick", defArgs (top 30), defBody (top 30), defScope (top 30), [], []⟩, ⟨("_law_pot", none), "_law_pot", "_law_pot", defArgs (top 28), defBody (top 28), defScope (top 28), [], []⟩, ⟨("Station", some "__eq__"), "__eq__", "Station.__eq__", defArgs (inClass (top 25) 7), defBody (inClass (top 25) 7), defScope (inClass (top 25) 7), [], []⟩, ⟨("is_integer", none), "is_integer", "is_integer", defArgs (top 2), defBody (top 2), defScope (top 2), [], []⟩, ⟨("is_count", none), "is_count", "is_count", defArgs (top 3), defBody (top 3), defScope (top 3), [], []⟩]
def fn1 : List He.DefD := [⟨("is_below", none), "is_below", "is_below", defArgs (top 4), defBody (top 4), defScope (top 4), [], []⟩, ⟨("is_text", none), "is_text", "is_text", defArgs (top 6), defBody (top 6), defScope (top 6), [], []⟩, ⟨("is_text_of", none), "is_text_of", "is_text_of", defArgs (top 8), defBody (top 8), defScope (top 8), [], []⟩, ⟨("is_list", none), "is_list", "is_list", defArgs (top 7), defBody (top 7), defScope (top 7), [], []⟩, ⟨("are_read", none), "are_read", "are_read", defArgs (top 22), defBody (top 22), defScope (top 22), [], []⟩, ⟨("is_row", none), "is_row", "is_row", defArgs (top 21), defBody (top 21), defScope (top 21), [], []⟩]
def fn2 : List He.DefD := [⟨("is_standing_told", none), "is_standing_told", "is_standing_told", defArgs (top 23), defBody (top 23), defScope (top 23), [], []⟩, ⟨("FlowError", some "__init__"), "__init__", "FlowError.__init__", defArgs (inClass (top 10) 0), defBody (inClass (top 10) 0), defScope (inClass (top 10) 0), [], []⟩, ⟨("want_standing", none), "want_standing", "want_standing", defArgs (top 26), defBody (top 26), defScope (top 26), [], []⟩, ⟨("InvalidStandings", some "__init__"), "__init__", "InvalidStandings.__init__", defArgs (inClass (top 15) 0), defBody (inClass (top 15) 0), defScope (inClass (top 15) 0), [], []⟩, ⟨("Station", some "reads"), "reads", "Station.reads", defArgs (inClass (top 25) 4), defBody (inClass (top 25) 4), defScope (inClass (top 25) 4), [], []⟩, ⟨("place_of", none), "place_of", "place_of", defArgs (top 24), defBody (top 24), defScope (top 24), [], []⟩]
def fn3 : List He.DefD := [⟨("Station", some "row"), "row", "Station.row", defArgs (inClass (top 25) 5), defBody (inClass (top 25) 5), defScope (inClass (top 25) 5), [], []⟩, ⟨("Station", some "__init__"), "__init__", "Station.__init__", defArgs (inClass (top 25) 0), defBody (inClass (top 25) 0), defScope (inClass (top 25) 0), [], []⟩, ⟨("Station", some "standings"), "standings", "Station.standings", defArgs (inClass (top 25) 3), defBody (inClass (top 25) 3), defScope (inClass (top 25) 3), [], []⟩, ⟨("Station", some "__len__"), "__len__", "Station.__len__", defArgs (inClass (top 25) 6), defBody (inClass (top 25) 6), defScope (inClass (top 25) 6), [], []⟩, ⟨("Station", some "__eq__"), "__eq__", "Station.__eq__", defArgs (inClass (top 25) 7), defBody (inClass (top 25) 7), defScope (inClass (top 25) 7), [], []⟩, ⟨("Station", some "__repr__"), "__repr__", "Station.__repr__", defArgs (inClass (top 25) 8), defBody (inClass (top 25) 8), defScope (inClass (top 25) 8), [], []⟩]
def fn4 : List He.DefD := [⟨("_law_text", none), "_law_text", "_law_text", defArgs (top 31), defBody (top 31), defScope (top 31), [], []⟩, ⟨("_law_row", none), "_law_row", "_law_row", defArgs (top 32), defBody (top 32), defScope (top 32), [], []⟩, ⟨("_law_model", none), "_law_model", "_law_model", defArgs (top 33), defBody (top 33), defScope (top 33), [], []⟩, ⟨("_law_odd_rows", none), "_law_odd_rows", "_law_odd_rows", defArgs (top 35), defBody (top 35), defScope (top 35), [], []⟩, ⟨("_law_odd_standings", none), "_law_odd_standings", "_law_odd_standings", defArgs (top 36), defBody (top 36), defScope (top 36), [], []⟩, ⟨("_law_made", none), "_law_made", "_law_made", defArgs (top 37), defBody (top 37), defScope (top 37), [], []⟩]
def fn5 : List He.DefD := [⟨("_law_unlike", none), "_law_unlike", "_law_unlike", defArgs (top 40), defBody (top 40), defScope (top 40), [], []⟩, ⟨("_law_all_unlike", none), "_law_all_unlike", "_law_all_unlike", defArgs (top 41), defBody (top 41), defScope (top 41), [], []⟩, ⟨("_law_refused_right", none), "_law_refused_right", "_law_refused_right", defArgs (top 38), defBody (top 38), defScope (top 38), [], []⟩, ⟨("_law_rows_right", none), "_law_rows_right", "_law_rows_right", defArgs (top 39), defBody (top 39), defScope (top 39), [], []⟩, ⟨("is_sign", none), "is_sign", "is_sign", defArgs (top 5), defBody (top 5), defScope (top 5), [], []⟩, ⟨("_law_basics_right", none), "_law_basics_right", "_law_basics_right", defArgs (top 42), defBody (top 42), defScope (top 42), [], []⟩]
def fn6 : List He.DefD := [⟨("_law_right", none), "_law_right", "_law_right", defArgs (top 43), defBody (top 43), defScope (top 43), [], []⟩, ⟨("law", none), "law", "law", defArgs (top 44), defBody (top 44), defScope (top 44), [], []⟩, ⟨("_law_heard", none), "_law_heard", "_law_heard", defArgs (top 34), defBody (top 34), defScope (top 34), [], []⟩]
def fn : List He.DefD := fn0 ++ fn1 ++ fn2 ++ fn3 ++ fn4 ++ fn5 ++ fn6
def prs0 : List PrD := [("Station", "ins", "Station.ins", inClass (top 25) 1), ("Station", "outs", "Station.outs", inClass (top 25) 2)]
def prs : List PrD := prs0
def exs0 : List (PySem.W.Frag → Bool) := [fun K => tupA K (He.ga K "SIGNS") [.str "0", .str "1"], fun K => kvB K (He.ga K "LINES") "1", fun K => tupA K (kvA K (He.ga K "LINES") "1") [.int 0], fun K => kvB K (He.ga K "LINES") "2", fun K => tupA K (kvA K (He.ga K "LINES") "2") [.int 1], fun K => kvB K (He.ga K "LINES") "12", fun K => tupA K (kvA K (He.ga K "LINES") "12") [.int 0, .int 1], fun K => isaB K (He.ga K "Station"), fun K => He.eqO (PySem.W.findIn K (.ref (He.ga K "Station")) "__ne__") (some (some (.builtin "object.__ne__"))), fun K => oexCB K (He.ga K "InvalidStandings")]
def exs1 : List (PySem.W.Frag → Bool) := [fun K => He.eqO (PySem.W.findIn K (.ref (He.ga K "InvalidStandings")) "__init__") (some (some (.ref (He.ma K (He.ga K "InvalidStandings") "__init__")))), fun K => decide (PySem.W.typeIn K (.ref (He.ma K (He.ga K "InvalidStandings") "__init__")) = some (.type "function")), fun K => He.eqO (PySem.W.findIn K (.ref (He.ga K "InvalidStandings")) "value") (some none), fun K => He.eqO (PySem.W.findIn K (.ref (He.ga K "InvalidStandings")) "position") (some none), fun K => creB K (He.ga K "FlowError"), fun K => fcR K (He.ga K "FlowError") "__init__" (He.ma K (He.ga K "FlowError") "__init__"), fun K => PySem.W.keepIn K (.ref (He.ma K (He.ga K "FlowError") "__init__")), fun K => excCB K (He.ga K "InvalidIns"), fun K => xfB K (He.ga K "InvalidIns"), fun K => decide (PySem.W.kitOne K (.ref (He.ga K "InvalidIns")) (.ref (He.ga K "FlowError")) = some true)]
def exs2 : List (PySem.W.Frag → Bool) := [fun K => decide (PySem.W.kitOne K (.ref (He.ga K "InvalidIns")) (.type "ValueError") = some true), fun K => He.eqO (PySem.W.findIn K (.ref (He.ga K "InvalidIns")) "value") (some none), fun K => excCB K (He.ga K "InvalidOuts"), fun K => xfB K (He.ga K "InvalidOuts"), fun K => decide (PySem.W.kitOne K (.ref (He.ga K "InvalidOuts")) (.ref (He.ga K "FlowError")) = some true), fun K => decide (PySem.W.kitOne K (.ref (He.ga K "InvalidOuts")) (.type "ValueError") = some true), fun K => He.eqO (PySem.W.findIn K (.ref (He.ga K "InvalidOuts")) "value") (some none), fun K => excCB K (He.ga K "InvalidStandings"), fun K => xfB K (He.ga K "InvalidStandings"), fun K => decide (PySem.W.kitOne K (.ref (He.ga K "InvalidStandings")) (.ref (He.ga K "FlowError")) = some true)]
def exs3 : List (PySem.W.Frag → Bool) := [fun K => decide (PySem.W.kitOne K (.ref (He.ga K "InvalidStandings")) (.type "ValueError") = some true), fun K => excCB K (He.ga K "InvalidStanding"), fun K => xfB K (He.ga K "InvalidStanding"), fun K => decide (PySem.W.kitOne K (.ref (He.ga K "InvalidStanding")) (.ref (He.ga K "FlowError")) = some true), fun K => decide (PySem.W.kitOne K (.ref (He.ga K "InvalidStanding")) (.type "ValueError") = some true), fun K => He.eqO (PySem.W.findIn K (.ref (He.ga K "InvalidStanding")) "value") (some none), fun K => excCB K (He.ga K "InvalidText"), fun K => xfB K (He.ga K "InvalidText"), fun K => decide (PySem.W.kitOne K (.ref (He.ga K "InvalidText")) (.ref (He.ga K "FlowError")) = some true), fun K => decide (PySem.W.kitOne K (.ref (He.ga K "InvalidText")) (.type "ValueError") = some true)]
def exs4 : List (PySem.W.Frag → Bool) := [fun K => He.eqO (PySem.W.findIn K (.ref (He.ga K "InvalidText")) "value") (some none), fun K => decide (PySem.W.exmOne K (.ref (He.ga K "InvalidIns")) (.ref (He.ga K "InvalidIns")) = some true), fun K => decide (PySem.W.exmOne K (.ref (He.ga K "InvalidOuts")) (.ref (He.ga K "InvalidIns")) = some false), fun K => decide (PySem.W.exmOne K (.ref (He.ga K "InvalidOuts")) (.ref (He.ga K "InvalidOuts")) = some true), fun K => decide (PySem.W.exmOne K (.ref (He.ga K "InvalidStandings")) (.ref (He.ga K "InvalidIns")) = some false), fun K => decide (PySem.W.exmOne K (.ref (He.ga K "InvalidStandings")) (.ref (He.ga K "InvalidOuts")) = some false), fun K => decide (PySem.W.exmOne K (.ref (He.ga K "InvalidStandings")) (.ref (He.ga K "InvalidStandings")) = some true), fun K => decide (PySem.W.exmOne K (.ref (He.ga K "InvalidStanding")) (.ref (He.ga K "InvalidIns")) = some false), fun K => decide (PySem.W.exmOne K (.ref (He.ga K "InvalidStanding")) (.ref (He.ga K "InvalidOuts")) = some false), fun K => decide (PySem.W.exmOne K (.ref (He.ga K "InvalidStanding")) (.ref (He.ga K "InvalidStandings")) = some false)]
def exs5 : List (PySem.W.Frag → Bool) := [fun K => decide (PySem.W.exmOne K (.ref (He.ga K "InvalidStanding")) (.ref (He.ga K "InvalidStanding")) = some true), fun K => decide (PySem.W.exmOne K (.ref (He.ga K "InvalidText")) (.ref (He.ga K "InvalidIns")) = some false), fun K => decide (PySem.W.exmOne K (.ref (He.ga K "InvalidText")) (.ref (He.ga K "InvalidOuts")) = some false), fun K => decide (PySem.W.exmOne K (.ref (He.ga K "InvalidText")) (.ref (He.ga K "InvalidStandings")) = some false), fun K => decide (PySem.W.exmOne K (.ref (He.ga K "InvalidText")) (.ref (He.ga K "InvalidStanding")) = some false), fun K => decide (PySem.W.exmOne K (.ref (He.ga K "InvalidText")) (.ref (He.ga K "InvalidText")) = some true), fun K => He.eqO (PySem.W.nsIn K (He.ga K "LINES") "3") (some none), fun K => He.eqO (PySem.W.nsIn K (He.ga K "LINES") "21") (some none), fun K => (K.lookup sysModules).isSome, fun K => decide (PySem.W.kitOne K (.type "str") (.ref (He.ga K "Station")) = some false)]
def exs6 : List (PySem.W.Frag → Bool) := [fun K => fcT K "ValueError" "__init__" "ValueError.__init__", fun K => oexCB K (He.ga K "InvalidIns"), fun K => He.eqO (PySem.W.findIn K (.ref (He.ga K "InvalidIns")) "__init__") (some (some (.ref (He.ma K (He.ga K "FlowError") "__init__")))), fun K => decide (PySem.W.typeIn K (.ref (He.ma K (He.ga K "FlowError") "__init__")) = some (.type "function")), fun K => oexCB K (He.ga K "InvalidOuts"), fun K => He.eqO (PySem.W.findIn K (.ref (He.ga K "InvalidOuts")) "__init__") (some (some (.ref (He.ma K (He.ga K "FlowError") "__init__")))), fun K => oexCB K (He.ga K "InvalidStanding"), fun K => He.eqO (PySem.W.findIn K (.ref (He.ga K "InvalidStanding")) "__init__") (some (some (.ref (He.ma K (He.ga K "FlowError") "__init__")))), fun K => oexCB K (He.ga K "InvalidText"), fun K => He.eqO (PySem.W.findIn K (.ref (He.ga K "InvalidText")) "__init__") (some (some (.ref (He.ma K (He.ga K "FlowError") "__init__"))))]
def exs7 : List (PySem.W.Frag → Bool) := [fun K => tabB K "_law_refused_right", fun K => tabB K "_law_rows_right", fun K => decide (tP K "_law_refused_right" ≠ tP K "_law_rows_right")]
def exs : List (PySem.W.Frag → Bool) := exs0 ++ exs1 ++ exs2 ++ exs3 ++ exs4 ++ exs5 ++ exs6 ++ exs7
def tbs : List He.Tab := [(fun K => He.ga K "LINES", ["1", "2", "12"])]
def hd : Hd := ⟨dsN, csN, tpN, fa, fn, tbs, prs, fun K => exs.all fun e => e K⟩
abbrev R : PySem.W.OpenRow := PySem.W.OpenLaw.row PySem.Challenge.rw_flowyard_k10_stations_told_and_refused
abbrev qv : Program := PySem.W.view R.prog [38, 39, 44]
noncomputable abbrev rn (w : World) (os : OsState) := HandSHeadRun.endF (HandSHeadRun.stepQ (HandSHeadRun.denQ HandSHeadRun.tabQ) R.prog w) 20000 R.prog w os
abbrev wF (w : World) : World := w.withFollow "special-get-raises" false
abbrev wT (w : World) : World := w.withFollow "special-get-raises" true
end FYH

set_option Elab.async false
set_option linter.all false
set_option maxRecDepth 100000
set_option maxHeartbeats 0
namespace FYH
open PySem PySem.W PySem.Calls PySem.Spec PyProof.Rows L2
theorem runF (w : World) (os : OsState) : (rn (wF w) os).map (fun s => (HandSHeadRun.looksF R.prog (boot_heap (wF w).params) s.abs, HandSHeadRun.seenQ qv nms (importedModules R.prog.main.body) (fun s => PySem.W.xlAt qv [] s && PySem.W.recOk R.toRowW.records s) s.abs, hd.ob s)) = some (true, PySem.W.openGood qv nms, hd.val (wF w)) := by
  kernel_rfl
end FYH

set_option Elab.async false
set_option linter.all false
set_option maxRecDepth 100000
set_option maxHeartbeats 0
namespace FYH
open PySem PySem.W PySem.Calls PySem.Spec PyProof.Rows L2
theorem runT (w : World) (os : OsState) : (rn (wT w) os).map (fun s => (HandSHeadRun.looksF R.prog (boot_heap (wT w).params) s.abs, HandSHeadRun.seenQ qv nms (importedModules R.prog.main.body) (fun s => PySem.W.xlAt qv [] s && PySem.W.recOk R.toRowW.records s) s.abs, hd.ob s)) = some (true, PySem.W.openGood qv nms, hd.val (wT w)) := by
  kernel_rfl
end FYH

set_option Elab.async false
set_option linter.all false
set_option maxRecDepth 100000
set_option maxHeartbeats 0
namespace FYH
open PySem PySem.Spec PyProof.Rows L2
theorem run (w : World) : HandSHeadRun.RunEq R qv hd.hk hd.ob 20000 nms w := PySem.W.byRow2 "special-get-raises" (P := fun w => HandSHeadRun.RunEq R qv hd.hk hd.ob 20000 nms w) (fun w os => runF w os) (fun w os => runT w os) w
end FYH

set_option Elab.async false
set_option linter.all false
set_option maxRecDepth 100000
set_option maxHeartbeats 4000000
/-! isinstance of a caught error that has a dict (HandS.ExcIs has the rule for one without) -/
namespace FYE
open PySem PySem.Spec PySem.Calls PyProof.Rows PySem.W
section
variable {prog : Program} {w : World} {A : Around} {E : Value → Shared → Prop} {s : Shared} {K : Frag} {x D : Addr} {ox : Obj} {od : Option Obj}
theorem found_class (C : L2.ExcC K D) : findObj K D od "__class__" = some (.bind (.builtin "getset_descriptor.__get__") (.builtin "object.__class__")) := by
  obtain ⟨cd, hc, _⟩ := any_some C.hd
  unfold findObj
  rw [hc, Option.bind_some, C.ha, Option.bind_some]
  simp [C.hn, C.ht]
theorem class_of {Q : Option Value → Shared → Prop} (C : L2.ExcC K D) (X : K.In s.heap) (I : InstAt s.heap x ox D od) (h : Q (some (.ref D)) { s with toks := s.toks + 1 }) : wpAny (model prog w) A (getAttr? (.ref x) "__class__") Q E s := by
  obtain ⟨hp, g, d, t, os⟩ := s
  have ty := I.type (M := model prog w)
  have ga := looks_findIn (M := model prog w) X C.hg
  have gt := looks_findIn (M := model prog w) X C.hk
  have fd := looks_find (M := model prog w) X I (found_class C)
  have sub : Looks (model prog w) hp (isInstance (.ref x) (.type "BaseException")) true := ty.andThen (looks_subIn X C.hs)
  have n1 : (onTheHeap (Value.ref D) && Value.builtin "BaseException.__getattribute__" == Value.builtin "object.__getattribute__") = false := by
    rw [show (Value.builtin "BaseException.__getattribute__" == Value.builtin "object.__getattribute__") = false by decide +kernel]
    rfl
  unfold getAttr? getAttrBy? getAttrBy
  refine wpAny_bind (wpAny_mkText (wpAny_bind (wpAny_attempt (wpAny_holding (wpAny_bind (ty.at (wpAny_bind (ga.at ?_))))))))
  show wpAny _ _ (if (onTheHeap (Value.ref D) && Value.builtin "BaseException.__getattribute__" == Value.builtin "object.__getattribute__") = true then _ else _) _ _ _
  rw [n1, if_neg Bool.false_ne_true]
  unfold getAttrByItsOwn hookBefore
  refine wpAny_bind ?_
  rw [if_pos (show onTheHeap (Value.ref D) = true from rfl)]
  refine gt.at (wpAny_bind (wpAny_attempt (wpAny_holding ?_)))
  unfold callGetattribute
  rw [show (false && onTheHeap (Value.builtin "BaseException.__getattribute__")) = false from rfl, if_neg Bool.false_ne_true]
  unfold boundAndCalled
  rw [PySem.F.excAttr_ValueError.ga.bind (.ref x)]
  refine wpAny_bind (wpAny_pure ?_)
  show wpAny _ _ (call (.builtin "BaseException.__getattribute__") [.ref x, .str "__class__" t]) _ _ _
  refine wpAny_call (codeAny_call_builtin PySem.F.excAttr_ValueError.ga.plain PySem.F.entry_bexc_ga ?_)
  refine @check_slot (model prog w) _ _ ⟨hp, g, d, t + 1, os⟩ "BaseException.__getattribute__" "BaseException" "__getattribute__" (.ref x) [.str "__class__" t] [] _ (by decide +kernel) (by decide +kernel) sub (PySem.F.args_bexc_ga (.ref x) (.str "__class__" t)) ?_
  unfold Builtin.«object.__getattribute__»
  refine wpAny_bind (wpAny_of_eq (a := ((Value.ref x : Value), [Value.str "__class__" t])) (by first | rfl | (simp only [slotArgs]; rfl)) ?_)
  refine wpAny_bind (wpAny_pure (wpAny_bind (ty.at (wpAny_bind (fd.at ?_)))))
  show wpAny _ _ (holding [Value.builtin "object.__class__"] (call (.builtin "getset_descriptor.__get__") [.builtin "object.__class__", .ref x, .ref D]) >>= ret) _ _ _
  refine wpAny_bind (wpAny_holding (wpAny_call (class_get (s := ⟨hp, g, d, t + 1, os⟩) (ox := ox) (od := od) X I C.hm ?_)))
  refine wpAny_pure ?_
  show wpAny _ _ (handedOut (.ref D)) _ _ _
  rw [handedOut_of (v := .ref D) rfl]
  first
    | exact wpAny_pure (wpAny_pure h)
    | exact wpAny_pure h
    | exact wpAny_pure (wpAny_bind (wpAny_pure (wpAny_pure h)))
theorem kit_exc (C : L2.ExcC K D) : KitX K (.ref x) (.ref D) (fun h => InstAt h x ox D od) where
  ty := fun _ _ _ I => I.type
  it := fun _ _ X _ => by
    obtain ⟨cdD, hcD, _⟩ := any_some C.hd
    unfold clsIn at hcD
    split at hcD
    · rename_i ho
      intro A' Q' E' s' k q
      unfold isType loadHead
      exact wpAny_bind (wpAny_loadPart (k _ _ (X _ _ ho)) (wpAny_pure q))
    · cases hcD
  ne := fun h tp dd its n sl X htp => by
    obtain ⟨cdD, hcD, _⟩ := any_some C.hd
    refine Bool.eq_false_iff.mpr fun q => ?_
    obtain rfl : D = tp := Value.ref.inj (beq_iff_eq.mp q)
    unfold clsIn at hcD
    split at hcD
    · rename_i ho
      have z := (X _ _ ho).symm.trans htp
      cases z
    · cases hcD
  ca := fun X I k => class_of C X I k
end
end FYE
namespace FYE
open PySem PySem.Spec PyProof.Rows L2
/-- isinstance(e, c), e the exception that the suite holds, with a dict -/
def rIsX (K : PySem.W.Frag) (D a : Addr) (cls : Value) (d : Option Addr) : List V → Hp → VK → Prop := fun xs H Q => ∃ (c : V) (cv : Value) (b : Bool) (dd : Addr) (fs : List (Str × V)), cls = .ref D ∧ d = some dd ∧ xs = [.ref a, c] ∧ (∀ u, RelV c u → u = cv) ∧ PySem.W.kitOne K (.ref D) cv = some b ∧ H dd = some (.xd fs) ∧ Q (.bl b) H
theorem call_isX {X : Cx} {a D : Addr} {cls : Value} {d : Option Addr} {oe : Obj} {pn : List (Addr × Obj)} (C : ExcC X.K D) (hz : Zc cls d oe) (hf : ∃ vs, oe.data = .fields vs) : CallR (X.suite a ((a, oe) :: pn)) (.builtin "isinstance") (rIsX X.K D a cls d) := by
  intro pins s σ H xs us Q I r h
  obtain ⟨c, cv, b, dd, fs, rfl, rfl, rfl, hcv, e, ea, q⟩ := h
  cases r with
  | cons rx rr =>
    cases rr with
    | cons rt rr =>
      cases rr
      cases rx
      obtain rfl := hcv _ rt
      obtain ⟨ha, _⟩ := I.pin (a, oe) (List.mem_append_left _ List.mem_cons_self)
      obtain ⟨vs, hd⟩ := hf
      have hx : ObjOk X.prog X.w H s.heap dd (.xd fs) := I.hok dd _ ea
      obtain ⟨mA, hns, hr⟩ := hx
      obtain ⟨od, ho, hl⟩ := lookIn_ns hns
      have J : PySem.W.InstAt s.heap a oe D (some od) := ⟨ha, hz.1, by unfold PySem.W.notCls; rw [hd] <;> rfl, by rw [hz.2]; exact ho⟩
      exact PySem.W.kia_one (kit_exc C) I.kIn J e (fun z => nomatch z) fun tk => ⟨.bl b, H, I.kept (t' := tk) fun _ _ z => z, rfl, q⟩
theorem kIsX {X : Cx} {a D : Addr} {cls : Value} {d : Option Addr} {oe : Obj} {pn : List (Addr × Obj)} (K : PySem.W.Frag) (hK : X.K = K) (C : ExcC K D) (hz : Zc cls d oe) (hf : ∃ vs, oe.data = .fields vs) : CallR (X.suite a ((a, oe) :: pn)) (.builtin "isinstance") (rIsX K D a cls d) := by
  subst hK
  exact call_isX C hz hf
end FYE

set_option Elab.async false
set_option linter.all false
set_option maxRecDepth 100000
/-! several clauses 'except X as n', all with one name -/
namespace L2
open PySem PySem.Spec PyProof.Rows
/-- the suite's end: the name goes -/
def goneD (i : Nat) (D : Ends) : Ends := { nx := fun σ' H' => D.nx (σ'.set i none) H', rt := D.rt, bk := fun σ' H' => D.bk (σ'.set i none) H', ct := fun σ' H' => D.ct (σ'.set i none) H' }
/-- what the clauses wish of an exception of the body, one after the other: slot i is the name's -/
def wManyAs (K : PySem.W.Frag) (i : Nat) (Wout : WX) (D : Ends) : List (Value × (Addr → Value → Option Addr → TS)) → WX
  | [] => Wout
  | (c, ts) :: r => fun cls d σ H => ∃ b, PySem.W.exmOne K cls c = some b ∧ (b = true → ∀ a, H a = none → ts a cls d (goneD i D) (σ.set i (some (.ref a))) H) ∧ (b = false → wManyAs K i Wout D r cls d σ H)
inductive HdsAs (X : Cx) (n : Str) : List ExceptHandler → List (Value × (Addr → Value → Option Addr → TS)) → Prop
  | nil : HdsAs X n [] []
  | cons {x : Str} {c : Value} {ts : Addr → Value → Option Addr → TS} {b₀ : Stmt} {suite : List Stmt} {np pos' : Pos} {hds : List ExceptHandler} {l : List (Value × (Addr → Value → Option Addr → TS))} (hc : Names X x c)
      (hsu : ∀ (a : Addr) (oe : Obj) (cls : Value) (d : Option Addr) (pn : List (Addr × Obj)), Zc cls d oe → (∃ vs, oe.data = .fields vs) → PSs (X.suite a ((a, oe) :: pn)) (b₀ :: suite) (ts a cls d)) (r : HdsAs X n hds l) :
      HdsAs X n (.ExceptHandler (some (.Name x np)) (some n) (b₀ :: suite) pos' :: hds) ((c, ts) :: l)
section
variable {X : Cx} {n : Str} {i : Nat} {body : List Stmt} {h₀ : ExceptHandler} {hds : List ExceptHandler} {l : List (Value × (Addr → Value → Option Addr → TS))} {pos : Pos} {tb : WX → TS} {Wout : WX}
theorem ps_try_manyAs (hs : X.stack = X.env :: X.outer) (hf : X.env.frame = some X.env.locals) (hN : X.N.Nodup) (hi : X.N[i]? = some n) (hln : X.env.kindOf n = some .local) (tk : Takes X Wout)
    (hb : ∀ (W : WX) (pn : List (Addr × Obj)) (xe : Value → Shared → Prop), Takes (X.tr pn xe) W → PassesOwn (model X.prog X.w) X.A X.env xe → PSs (X.tr pn xe) body (tb W))
    (hh : HdsAs X n (h₀ :: hds) l) : PS X (.Try body (h₀ :: hds) [] [] pos) (fun D σ H => tb (wManyAs X.K i Wout D l) D σ H) := by
  refine ⟨fun pins s σ H D I h => ?_⟩
  have ok := I.ok
  have hfr : X.A.frames = some (X.env :: X.outer) := by rw [ok.frames, hs]
  have hloc : Loc X.env.scope n := .inl hln
  refine wpAny_Try_except ?_
  refine wpAny_mono ((hb (wManyAs X.K i Wout D l) (X.pn ++ pins) (fun e s₁ => wpAny (model X.prog X.w) X.A (noteFrame e X.env) (fun _ s₂ => wpAny (model X.prog X.w) X.A (setFlight e none) (fun _ s₃ =>
    wpAny (model X.prog X.w) X.A (handleBy e X.env (h₀ :: hds)) (SP X pins D) X.xe s₃) X.xe s₂) X.xe s₁) (fun u s' xx => ?_) PassesOwn.looking).run [] s σ H D (I.toTry _) h) (fun f s1 hsp => ?_) (fun e s1 he => he)
  · -- the catch
    obtain ⟨a, B, sI, pins', σ', H', cls, d, rfl, J', nb, up, sky, na, os, ag, w⟩ := xx
    have J : Inv X pins σ' H' sI := J'.ofTry ok
    have sky' : Sky B (X.env :: X.outer) a (Zc cls d) X.env.locals s'.heap := by rw [← hs]; exact sky
    show wpAny (model X.prog X.w) X.A (noteFrame (.ref a) X.env) _ _ _
    refine Sky.land Zc.steady hfr hf sky' fun h3 fl3 up3 => ?_
    have J3 : Inv X pins σ' H' { s' with heap := h3 } := J.landed nb fl3.1 (up.trans up3) os ag
    obtain ⟨oe3, vs3, he3, hz3, hd3⟩ := fl3.there
    have notFr : ∀ {h : Heap} {o : Obj} {vs : Array Value}, h.FunFrames B (X.env :: X.outer) → h.get? a = some o → o.data = .fields vs → a ∉ frs (X.env :: X.outer) := fun {h o vs} ff e dd hm => by
      obtain ⟨_, o', e', hnf⟩ := ff.mem hm
      rw [e] at e'; cases e'
      exact hnf _ dd
    have nfr := notFr fl3.2.2.1 he3 hd3
    have nL : a ≠ X.env.locals := fun z => nfr (List.mem_filterMap.mpr ⟨X.env, List.mem_cons_self, by rw [hf, z]⟩)
    have nF : a ∉ X.fs := fun hm => by
      obtain ⟨e, he, q⟩ := List.mem_filterMap.mp hm
      exact nfr (List.mem_filterMap.mpr ⟨e, List.mem_cons_of_mem _ he, q⟩)
    have S3 := J3.suite he3 hd3 na nL nF
    have go : ∀ {hds' : List ExceptHandler} {l' : List (Value × (Addr → Value → Option Addr → TS))}, HdsAs X n hds' l' → wManyAs X.K i Wout D l' cls d σ' H' →
        wpAny (model X.prog X.w) X.A (handleBy (.ref a) X.env hds') (SP X pins D) X.xe { s' with heap := h3 } := by
      intro hds' l' hk
      induction hk with
      | nil =>
        intro w
        refine wpAny_handleBy_nil ?_
        obtain ⟨k1, k2, k3, oe, vs, T, oT, ts', he, hz, hd, h1, hr⟩ := id fl3
        unfold PySem.passOn
        refine wpAny_bind (wpAny_field he hd h1 ?_)
        rw [if_neg (show ¬ ((Value.ref T == Value.none) = true) from by simp)]
        have fin : wpAny (model X.prog X.w) X.A (setFlight (.ref a) X.env.frame) (fun _ s4 => wpAny (model X.prog X.w) X.A (throw (.ref a) : Sem Flow) (SP X pins D) X.xe s4) X.xe { s' with heap := h3 } := by
          rw [hf]
          refine HandSPX.setFlight_upZ fl3 fun h4 hh4 up4 => wpAny_throw (tk _ _ ?_)
          exact ⟨a, B, sI, pins, σ', H', cls, d, rfl, J, nb, (up.trans up3).trans up4, .inr (.inr (by rw [hs]; exact hh4)), na, os, ag, w⟩
        first
          | exact wpAny_bind (wpAny_pure (wpAny_bind fin))
          | exact wpAny_bind fin
      | @cons x c ts b₀ suite np pos' hds2 l2 hc hsu r ih =>
        intro w
        obtain ⟨b, hb1, hyes, hno⟩ := w
        refine wpAny_handleBy_cons (codeAny_handlers_test ?_) (by intro q; cases q)
        have LT : PySem.W.Looks (model X.prog X.w) h3 (typeOf (.ref a)) cls := fun A Q E s k q => wpAny_typeOf_ref (k _ _ he3) (by rw [hz3.1]; exact q)
        have LM := PySem.W.exm_one (M := model X.prog X.w) (J3.kIn) LT hb1
        have test : ∀ {Q : Value → Shared → Prop} {E : Value → Shared → Prop}, Q c { s' with heap := h3 } → wpAny (model X.prog X.w) (X.A.mark (some (.ref a))) (eval (.Name x np) X.env) Q E { s' with heap := h3 } := fun {Q E} q => by
          obtain ⟨hg, hdbg, hm | ⟨hm, hv, hnn⟩⟩ := hc
          · exact ld_glob (X := X.suite a ((a, oe3) :: (X.pn ++ pins))) S3 hg hm q hdbg
          · exact ld_blt (X := X.suite a ((a, oe3) :: (X.pn ++ pins))) S3 hg hm hv q hnn hdbg
        refine test (LM.here ?_)
        cases b with
        | true =>
          refine codeAny_handlers_suite_as ?_
          refine HandSPX.lands_againZ fl3 fun h4 fl4 up4 => ?_
          have J4 : Inv X pins σ' H' { s' with heap := h4 } := J.landed nb fl4.1 ((up.trans up3).trans up4) os ag
          obtain ⟨oe4, vs4, he4, hz4, hd4⟩ := fl4.there
          have S4 := J4.suite he4 hd4 na nL nF
          refine store_ok (X := X.suite a ((a, oe4) :: (X.pn ++ pins))) (v := .ref a) S4 hN hi hloc rfl (fun s5 S5 => ?_) (.inr hln)
          refine wpAny_mono ((hsu a oe4 cls d (X.pn ++ pins) hz4 ⟨_, hd4⟩).run [] s5 _ H' _ S5 (hyes rfl a na)) (fun f s6 hsp => ?_) (fun _ _ z => False.elim z)
          have end_ : ∀ {σ6 : St} {H6 : Hp} {Q : Shared → Prop}, Inv (X.suite a ((a, oe4) :: (X.pn ++ pins))) [] σ6 H6 s6 → (∀ s7, Inv X pins (σ6.set i none) H6 s7 → Q s7) →
              wpAny (model X.prog X.w) X.A (do bindName X.env n .none; unbindBehindTheSuite X.env n pos') (fun _ s7 => Q s7) X.xe s6 := fun {σ6 H6 Q} S6 hq => gone_ok (S6.unsuite ok) hN hi hln hq
          cases f with
          | next =>
            obtain ⟨σ6, H6, S6, q6⟩ := hsp
            exact end_ S6 fun s7 J7 => ⟨_, _, J7, q6⟩
          | brk =>
            obtain ⟨σ6, H6, S6, q6⟩ := hsp
            exact end_ S6 fun s7 J7 => ⟨_, _, J7, q6⟩
          | cont =>
            obtain ⟨σ6, H6, S6, q6⟩ := hsp
            exact end_ S6 fun s7 J7 => ⟨_, _, J7, q6⟩
          | ret u =>
            obtain ⟨v6, σ6, H6, S6, r6, q6⟩ := hsp
            exact end_ S6 fun s7 J7 => ⟨_, _, _, J7, r6, q6⟩
        | false =>
          show wpAny _ X.A (handleBy (.ref a) X.env hds2) _ _ _
          exact ih (hno rfl)
    exact go hh w
  · cases f with
    | next =>
      obtain ⟨σ', H', J', q⟩ := hsp
      exact wpAny_execs_nil ⟨σ', H', J'.ofTry ok, q⟩
    | brk =>
      obtain ⟨σ', H', J', q⟩ := hsp
      exact ⟨σ', H', J'.ofTry ok, q⟩
    | cont =>
      obtain ⟨σ', H', J', q⟩ := hsp
      exact ⟨σ', H', J'.ofTry ok, q⟩
    | ret u =>
      obtain ⟨v, σ', H', J', r, q⟩ := hsp
      exact ⟨v, σ', H', J'.ofTry ok, r, q⟩
end
end L2

set_option Elab.async false
set_option linter.all false
set_option maxRecDepth 100000
set_option maxHeartbeats 4000000
/-! defs whose promise leans on «no repr is under way» (A.guards = some []): FnG; repr of data -/
namespace FYR
open PySem PySem.Spec PyProof.Rows L2
structure FnG (P : Program) (w : World) (K : PySem.W.Frag) (mg : Str → Option Value) (base : Heap) (k : Nat) (f : Addr) (fd : FuncData) (ps : List Str) (sp : Sp) : Prop where
  len : ∀ vs H Q E, sp vs H Q E → vs.length = ps.length
  run : ∀ (A : Around) (outer : List Env) (s : Shared) (H : Hp) (args : Args) (us : List Value) (vs : List V) (Q : VK) (E : XK), A.guards = some [] → Room k A → Env0 P w K mg base A outer s H → BindsTo s fd args (ps.zip us) → Vals vs us → sp vs H Q E →
    codeAny (model P w) A (.call (.ref f) args) (CR CX0 outer P w H s Q E) s
section
variable {P : Program} {w : World} {K : PySem.W.Frag} {mg : Str → Option Value} {base : Heap}
theorem fnG_of {x qual : Str} {st : Stmt} {f : Addr} {fd : FuncData} {N ps : List Str} {k : Nat} {sp : Sp} (F : Fun K x qual st f fd) (S : FnScope N ps (defScope st)) (len : ∀ vs H Q E, sp vs H Q E → vs.length = ps.length)
    (hbody : ∀ (cdv : Value) (A : Around) (outer : List Env) (s : Shared) (H : Hp) (vs : List V) (Q : VK) (E : XK), A.guards = some [] → Room k (A.deeper (envOfC qual (defScope st) s.heap.objs.size f cdv)) → sp vs H Q E →
      ∃ t, PSs (cxOf CX0 P w K mg base N qual (defScope st) f cdv A outer s H E).nox (defBody st) t ∧ t { nx := fun _ H' => Q .non H', rt := Q } (start N vs) H) : FnG P w K mg base (k + 1) f fd ps sp := by
  obtain ⟨oc, od, kV, doc, pm, an, cdv, ct, osl, rfl, lk, hcd⟩ := F.ex
  refine ⟨len, fun A outer s H args us vs Q E hgd hr e0 hb r hsp => ?_⟩
  have hl := len _ _ _ _ hsp
  have kin : K.In s.heap := e0.mod.kin.keeps fun b o e => (e0.bs b o e).1
  have nolim : s.heap.NoLimit := e0.mod.nolimit.keeps fun b o e => (e0.bs b o e).1
  have kinds : ∀ y ∈ ps.zip us, (defScope st).names.lookup y.1 = some .local ∨ ((defScope st).names.lookup y.1 = some .cell ∧ ((cellsFrom (s.heap.objs.size + 1) (defScope st).names []).lookup y.1).isSome = true) := by
    rintro ⟨n, v⟩ hy
    exact (S.par n (List.of_mem_zip hy).1).imp id fun q => ⟨q, PySem.W.cellsFrom_some _ _ _ (.inl q)⟩
  refine codeAny_call_function hr.depth (kin _ _ lk) rfl S.co S.gen rfl (PySem.W.codeRec_of kin hcd) (hb _ _ _ _ ?_)
  refine wpAny_newFunctionEnv_cells S.kind kinds fun env he s1 x => ?_
  subst he
  refine ⟨nolim.keeps x.toInCall.keep, codeAny_func ?_⟩
  obtain ⟨t, ht, hq⟩ := hbody cdv A outer s H vs Q E hgd (hr.deeper _) hsp
  have I : Inv (cxOf CX0 P w K mg base N qual (defScope st) f cdv A outer s H E) [] (start N vs) H s1 := inv_start S hr.hd e0 hl r x
  refine wpAny_mono (ht.nox.run [] s1 (start N vs) H _ I hq) (fun fl s' hs => ?_) fun e s' hs => hs
  cases fl with
  | ret u =>
    obtain ⟨v, σ', H', J, rv, q⟩ := hs
    exact ⟨v, H', J.os, J.bare, J.base, J.hok, rv, q⟩
  | next =>
    obtain ⟨σ', H', J, q⟩ := hs
    exact ⟨.non, H', J.os, J.bare, J.base, J.hok, rfl, q⟩
  | brk =>
    obtain ⟨_, _, _, q⟩ := hs
    exact q.elim
  | cont =>
    obtain ⟨_, _, _, q⟩ := hs
    exact q.elim
end
section
variable {X : Cx} {k : Nat} {f : Addr} {fd : FuncData} {ps : List Str} {sp : Sp} {x : Str} {p pos : Pos} {e : Expr} {es : List Expr} {t : TA}
theorem pe_callG (F : FnG X.prog X.w X.K X.mg X.base k f fd ps sp) (hgd : X.A.guards = some []) (hr : Room k X.A) (hg : Gl X x) (hm : X.mg x = some (.ref f)) (hk : PySem.W.keepIn X.K (.ref f) = true) (hb : Binds X.K fd ps [])
    (ha : PA X (e :: es) t) (hdb : (x == ("__debug__" : Str)) = false := by decide) (he : starEach (e :: es) X.env = (false, eval e X.env) :: starEach es X.env := by rfl) (hpl : (backTo pos (starEach es X.env)).any (·.1) = false := by rfl) :
    PE X (.Call (.Name x p) (e :: es) [] pos) (tCall sp [] E0 t) := by
  refine ⟨fun pins s σ H Q I h => ?_⟩
  refine wpAny_Call_Name_kw (ld_glob I hg hm ?_ hdb)
  refine PySem.W.callWith_K (h₀ := X.base) I.ok.mod.kin hk (thn (ha.run pos pins s σ H _ I h) fun us s1 ⟨vs, H1, I1, r, q⟩ => ⟨I1.kIn, ?_⟩) he hpl
  simp only [List.append_nil] at q
  show wpAny (model X.prog X.w) X.A (call (.ref f) us) (EP X pins σ Q) X.xe s1
  have hl : us.length = ps.length := by rw [← r.length]; exact F.len _ _ _ _ q
  refine wpAny_call (codeAny_mono (F.run X.A X.stack s1 H1 ⟨us, []⟩ us vs Q E0 hgd hr I1.env0 (by have z := hb s1 us I1.kIn (by rw [List.append_nil]; exact hl); rw [List.append_nil] at z; exact z) r q) fun r s' hq => ?_)
  cases r with
  | error e => exact False.elim hq
  | ok fl =>
    cases fl with
    | ret u => exact I1.after hq
    | next => exact False.elim hq
    | brk => exact False.elim hq
    | cont => exact False.elim hq

/-! ### repr of data -/
def rReprD (K : PySem.W.Frag) : List V → Hp → VK → Prop := fun xs H Q => ∃ (v : V) (d : PyData), xs = [v] ∧ Dp K H v d ∧ d.showable = true ∧ d.hasDict = false ∧ d.depth ≤ 30 ∧ d.shown.length ≤ sizeLine ∧ Q (.str d.shown) H
theorem call_reprD (hgd : X.A.guards = some []) (hr : Room k X.A) : CallR X (.builtin "repr") (rReprD X.K) := by
  intro pins s σ H xs us Q I rv h
  obtain ⟨v, d, rfl, hd, h1, h2, h3, h4, q⟩ := h
  obtain ⟨u, rfl, ru⟩ := rv.one
  have hu := hr.units
  have big : ∀ a, v = .ref a → wpAny (model X.prog X.w) X.A (call (.builtin "repr") [u]) (EP X pins σ Q) X.xe s := by
    rintro a rfl
    obtain ⟨as, rd⟩ := Dp.reads I d _ u hd ru
    cases ru
    exact repr_of_reads' rd h1 (PyData.noDict_hsm h2) hgd (by omega) (fun _ _ e => e) (fun h' t tk hk => ⟨.str _, H, I.kept (t' := tk) hk, ⟨_, rfl⟩, q⟩) h4
  cases hd with
  | non =>
    cases ru
    rw [PyData.shown_none] at q
    exact PySem.P.repr_of_none ⟨.str _, H, I.tok _, ⟨_, rfl⟩, q⟩
  | bl b =>
    cases ru
    rw [PyData.shown_bool] at q
    refine PySem.P.repr_of_bool ⟨.str _, H, I.tok _, ⟨_, rfl⟩, ?_⟩
    cases b <;> exact q
  | int i =>
    obtain ⟨t, rfl⟩ := ru
    rw [PyData.shown_int] at q
    exact PySem.P.repr_of_int (by simpa [PyData.showable] using h1) ⟨.str _, H, I.tok _, ⟨_, rfl⟩, q⟩
  | str y =>
    obtain ⟨t, rfl⟩ := ru
    rw [PyData.shown_str] at q h4
    exact PySem.P.repr_of_str ⟨.str _, H, I.tok _, ⟨_, rfl⟩, q⟩ h4
  | lst _ _ => exact big _ rfl
  | tup _ _ => exact big _ rfl
end
/-! ### the end of a law row over FnG -/
theorem law_callG {P : Program} {w : World} {K : PySem.W.Frag} {mg mb : Str → Option Value} {k : Nat} {fa a : Addr} {fd : FuncData} {x : Str} {sp : Sp} {s₁ : Shared} {vs : List Value} {ns : List Int}
    (KX : K.In s₁.heap) (hns : s₁.heap.Ns mainGlobals mg) (hb : s₁.heap.Ns builtinsNs mb) (hbb : ∀ x : Str, x ≠ "__name__" → mb x = bootBuiltins x) (hlim : s₁.heap.NoLimit) (hg : s₁.gens = #[])
    (ha : s₁.heap.get? a = some { cls := .type "list", data := .seq vs.toArray }) (hi : IntsAre vs ns) (hl : ns.length ≤ sizeLine) (hr : Room k callerA)
    (F : ∀ base : Heap, K.In base → base.Ns mainGlobals mg → FnG P w K mg base k fa fd [x] sp) (hbind : ∀ (s : Shared) (u : Value), BindsTo s fd ⟨[u], []⟩ [(x, u)])
    (hsp : ∀ H : Hp, Only H → SqL K H a (ns.map V.int) → sp [.ref a] H (fun v _ => v = .bl true) fun _ _ _ => False) :
    codeAny (model P w) callerA (.call (.ref fa) ⟨[.ref a], []⟩) (fun r s' => r = .ok (.ret (.bool true)) ∧ OldK s₁.heap s'.heap ∧ s'.os = s₁.os ∧ AllBare s'.gens) s₁ := by
  have rv := vals_ints hi
  have core : ∀ H : Hp, Only H → SqL K H a (ns.map V.int) → HOk P w H s₁.heap → (∀ b, H b ≠ none → b = a ∧ K.lookup a = none) →
      codeAny (model P w) callerA (.call (.ref fa) ⟨[.ref a], []⟩) (fun r s' => r = .ok (.ret (.bool true)) ∧ OldK s₁.heap s'.heap ∧ s'.os = s₁.os ∧ AllBare s'.gens) s₁ := by
    intro H hO hS hok hA
    have free : ∀ {b : Addr}, (∀ q : b = a, K.lookup a = none → False) → H b = none := fun {b} z => by
      cases q : H b with
      | none => rfl
      | some u =>
        obtain ⟨e1, e2⟩ := hA b (by rw [q]; simp)
        exact (z e1 e2).elim
    have nsK : ∀ {b : Addr} {m : Str → Option Value}, s₁.heap.Ns b m → (hidT s₁.heap H).Ns b m := fun {b m} ⟨o, es, ep, e, d, r⟩ =>
      ⟨o, es, ep, hidT_get e (free fun q _ => by rw [q, ha] at e; cases e; cases d), d, r⟩
    have hKb : K.In (hidT s₁.heap H) := fun b o e => hidT_get (KX b o e) (free fun q z => by rw [q, z] at e; cases e)
    have hM : Mod K mg (hidT s₁.heap H) := ⟨hKb, nsK hns, ⟨mb, nsK hb, hbb⟩, let ⟨mc, h1, h2⟩ := hlim; ⟨mc, nsK h1, h2⟩⟩
    have e0 : Env0 P w K mg (hidT s₁.heap H) callerA [] s₁ H := ⟨rfl, hM, fun b o e => of_hidT e, Nat.le_of_eq (hidT_size _ _), trivial, fun b hb => absurd (show b ∈ ([] : List Addr) from hb) (by simp), hok, .of_eq hg⟩
    refine codeAny_mono ((F _ hKb (nsK hns)).run callerA [] s₁ H ⟨[.ref a], []⟩ [.ref a] [.ref a] _ _ rfl hr e0 (hbind s₁ (.ref a)) (.cons rfl .nil) (hsp H hO hS)) fun r s' h => ?_
    cases r with
    | error e => exact False.elim h
    | ok fl =>
      cases fl with
      | next => exact False.elim h
      | brk => exact False.elim h
      | cont => exact False.elim h
      | ret u =>
        obtain ⟨v, H', os, bare, un, hok', r', q⟩ := h
        cases (show v = .bl true from q)
        cases (show u = Value.bool true from r')
        refine ⟨rfl, OldK.of_keep fun b o e => ?_, os, bare⟩
        rcases hO b with z | ⟨ob, xs, z⟩
        · exact un.keep b o e z (fun y => absurd (show b ∈ ([] : List Addr) from y) (by simp)) (by simp)
        · obtain ⟨e1, _⟩ := hok b _ z
          obtain ⟨e2, _⟩ := hok' b _ (un.frzs b ob _ z)
          rw [e] at e1
          cases e1
          exact e2
  cases hk : K.lookup a with
  | some o =>
    have e := KX a o hk
    rw [ha] at e
    cases e
    exact core (fun _ => none) (fun _ => .inl rfl) (.inr ⟨_, vs.toArray, _, hk, rfl, rfl, rfl, by rw [List.size_toArray, hi.length]; exact hl, by simpa using rv⟩) (fun b u z => nomatch z) fun b z => absurd rfl z
  | none =>
    refine core (fun b => if b = a then some (.frz { cls := .type "list", data := .seq vs.toArray } (.lst (ns.map V.int))) else none) (fun b => ?_) (.inl (.inr ⟨_, if_pos rfl⟩)) (fun b u z => ?_) fun b z => ?_
    · exact (Decidable.em (b = a)).elim (fun hb => .inr ⟨_, _, if_pos hb⟩) fun hb => .inl (if_neg hb)
    · by_cases hb : b = a
      · cases (if_pos hb).symm.trans z
        subst hb
        exact ⟨ha, by rw [List.length_map]; exact hl, vs, _, rv, ha⟩
      · cases (if_neg hb).symm.trans z
    · exact (Decidable.em (b = a)).elim (fun hb => ⟨hb, hk⟩) fun hb => absurd (if_neg hb) z
theorem walkG {l : PySem.W.OpenLaw} {n k : Nat} {q : Program} {loose : List Str} {XP : (Str → Option Value) → Heap → Prop} {YP : World → Heap → Prop} {d : DefRec} {K : Params → PySem.W.Frag} {sp : PySem.W.Frag → Sp} {x : Str}
    (hn : l.most = some n) (hn2 : n ≤ sizeLine) (hdf : d.params.defaults = []) (hr : Room k callerA)
    (hY : ∀ (w : World) (h : Heap), YP w h → (K w.params).In h)
    (F : ∀ (w : World) (mg : Str → Option Value) (fa : Addr) (h : Heap), (K w.params).In h → h.Ns mainGlobals mg → mg d.name = some (.ref fa) →
      ∃ fd : FuncData, (∀ (s : Shared) (u : Value), BindsTo s fd ⟨[u], []⟩ [(x, u)]) ∧
        ∀ base : Heap, (K w.params).In base → base.Ns mainGlobals mg → FnG l.prog w (K w.params) mg base k fa fd [x] (sp (K w.params)))
    (hsp : ∀ (K : PySem.W.Frag) (H : Hp) (a : Addr) (ns : List Int), ns.length ≤ n → Only H → SqL K H a (ns.map V.int) → sp K [.ref a] H (fun v _ => v = .bl true) fun _ _ _ => False) :
    PySem.W.WalkO q loose XP YP l.row.toRowW d [] (fun f vs => PySem.call f vs) := by
  refine Att.attach_call hn hdf fun w s₀ s₁ mg mb fa o pm cd doc a vs ns G Y ho hd hcd hmg hobj hints hlen hg => ?_
  obtain ⟨fd, hb, hF⟩ := F w mg fa _ (hY w _ Y) G.T.g hmg
  exact law_callG (hY w _ Y) G.T.g G.T.b G.T.builtins G.T.nolimit hg hobj hints (Nat.le_trans hlen hn2) hr hF hb fun H hO hS => hsp _ H a ns hlen hO hS
end FYR

set_option Elab.async false
set_option linter.all false
set_option maxRecDepth 100000
set_option maxHeartbeats 400000
/-! dicts whose keys are nested tuples (states, rests): display of one pair, in, d[k], d[k] = v -/
namespace FYR
open PySem PySem.Spec PyProof.Rows L2
mutual
/-- the value v is the key k -/
inductive NV (H : Hp) : NestedKey → V → Prop
  | non : NV H .none .non
  | num (i : Int) : NV H (.num i) (.int i)
  | text (x : Str) : NV H (.text x) (.str x)
  | tup {a : Addr} {vs : List V} {ks : List NestedKey} : H a = some (.tup vs) → NVs H ks vs → NV H (.tup ks) (.ref a)
inductive NVs (H : Hp) : List NestedKey → List V → Prop
  | nil : NVs H [] []
  | cons {k : NestedKey} {v : V} {ks : List NestedKey} {vs : List V} : NV H k v → NVs H ks vs → NVs H (k :: ks) (v :: vs)
end
mutual
theorem NV.keep {H H' : Hp} (t : ∀ a xs, H a = some (.tup xs) → H' a = some (.tup xs)) : ∀ (k : NestedKey) {v : V}, NV H k v → NV H' k v
  | .none, _, h => by cases h; exact .non
  | .num _, _, h => by cases h; exact .num _
  | .text _, _, h => by cases h; exact .text _
  | .tup ks, _, h => by
    cases h with
    | tup e r => exact .tup (t _ _ e) (NVs.keep t ks r)
theorem NVs.keep {H H' : Hp} (t : ∀ a xs, H a = some (.tup xs) → H' a = some (.tup xs)) : ∀ (ks : List NestedKey) {vs : List V}, NVs H ks vs → NVs H' ks vs
  | [], _, h => by cases h; exact .nil
  | k :: ks, _, h => by
    cases h with
    | cons a b => exact .cons (NV.keep t k a) (NVs.keep t ks b)
end
mutual
theorem NV.is {P : Program} {w : World} {H : Hp} {h : Heap} (ok : HOk P w H h) : ∀ (k : NestedKey) {v : V} {u : Value}, NV H k v → RelV v u → NestedIs h k u
  | .none, _, _, x, r => by cases x; cases r; exact .none
  | .num i, _, _, x, r => by cases x; obtain ⟨t, rfl⟩ := r; exact .int i t
  | .text y, _, _, x, r => by cases x; obtain ⟨t, rfl⟩ := r; exact .text y t
  | .tup ks, _, _, x, r => by
    cases x with
    | tup e q =>
      cases r
      obtain ⟨_, its, rv, o, h1, h2, n, h3⟩ := (show ObjOk P w H h _ (.tup _) from ok _ _ e)
      exact .tup h1 h2 h3 (by simpa using NVs.is ok ks q rv)
theorem NVs.is {P : Program} {w : World} {H : Hp} {h : Heap} (ok : HOk P w H h) : ∀ (ks : List NestedKey) {vs : List V} {us : List Value}, NVs H ks vs → Vals vs us → NestedAll h ks us
  | [], _, _, x, r => by cases x; cases r; exact .nil
  | k :: ks, _, _, x, r => by
    cases x with
    | cons a b =>
      cases r with
      | cons ra rb => exact .cons (NV.is ok k a ra) (NVs.is ok ks b rb)
end
/-- a dict object by its entries -/
def NO (w : World) (d : Addr) (xs : List (NestedKey × Addr × Value)) : HO := .ext fun h => (d == sysModules) = false ∧ ∃ o es ep, h.get? d = some o ∧ o.ExactDict ∧ o.data = .dict es ep ∧ es.toList = xs.map fun x => (⟨x.1.hash w, .ref x.2.1, x.2.2⟩ : DictEntry)
theorem no_ne {w : World} {d : Addr} {xs : List (NestedKey × Addr × Value)} {ys : List V} : NO w d xs ≠ .tup ys := fun z => nomatch z
abbrev NT (H : Hp) : List (NestedKey × V) → List (NestedKey × Addr × Value) → Prop := Paired fun (p : NestedKey × V) (q : NestedKey × Addr × Value) => p.1 = q.1 ∧ NV H p.1 (.ref q.2.1) ∧ p.1.depth ≤ 8 ∧ RelV p.2 q.2.2
/-- at d a dict of the pairs kvs -/
def ND (w : World) (H : Hp) (d : Addr) (kvs : List (NestedKey × V)) : Prop := ∃ xs, H d = some (NO w d xs) ∧ NT H kvs xs ∧ (kvs.map (·.1)).Nodup ∧ kvs.length ≤ sizeLine
def valN (kvs : List (NestedKey × V)) (k : NestedKey) : Option V := (kvs.find? fun p => decide (p.1 = k)).map (·.2)
def putN (kvs : List (NestedKey × V)) (k : NestedKey) (v : V) : List (NestedKey × V) := if (valN kvs k).isSome then kvs.map (fun p => if p.1 = k then (p.1, v) else p) else kvs ++ [(k, v)]
theorem NT.keep {H H' : Hp} (t : ∀ a xs, H a = some (.tup xs) → H' a = some (.tup xs)) : ∀ {kvs : List (NestedKey × V)} {xs : List (NestedKey × Addr × Value)}, NT H kvs xs → NT H' kvs xs
  | _, _, .nil => .nil
  | _, _, .cons ⟨a, b, c, d⟩ q => .cons ⟨a, NV.keep t _ b, c, d⟩ (NT.keep t q)
theorem ND.keep {w : World} {H H' : Hp} {d : Addr} {kvs : List (NestedKey × V)} (h : ND w H d kvs) (hd : ∀ o, H d = some o → H' d = some o) (t : ∀ a xs, H a = some (.tup xs) → H' a = some (.tup xs)) : ND w H' d kvs := by
  obtain ⟨xs, e, r, n, l⟩ := h
  exact ⟨xs, hd _ e, r.keep t, n, l⟩
theorem NT.keys {H : Hp} : ∀ {kvs : List (NestedKey × V)} {xs : List (NestedKey × Addr × Value)}, NT H kvs xs → kvs.map (·.1) = xs.map (·.1)
  | _, _, .nil => rfl
  | _, _, .cons h q => by rw [List.map_cons, List.map_cons, h.1, NT.keys q]
theorem NT.len {H : Hp} {kvs : List (NestedKey × V)} {xs : List (NestedKey × Addr × Value)} (r : NT H kvs xs) : kvs.length = xs.length := Paired.length r
theorem NT.val {H : Hp} (k : NestedKey) : ∀ {kvs : List (NestedKey × V)} {xs : List (NestedKey × Addr × Value)}, NT H kvs xs → RelO (valN kvs k) ((atKey xs k).map (·.2))
  | _, _, .nil => True.intro
  | p :: kvs, q :: xs, .cons h r => by
    have ih := NT.val k r
    unfold valN atKey at ih ⊢
    rw [List.find?_cons, List.find?_cons, ← h.1]
    by_cases e : p.1 = k
    · rw [decide_eq_true e]; exact h.2.2.2
    · rw [decide_eq_false e]; exact ih
theorem NT.is {P : Program} {w : World} {H : Hp} {h : Heap} (ok : HOk P w H h) : ∀ {kvs : List (NestedKey × V)} {xs : List (NestedKey × Addr × Value)}, NT H kvs xs → ∀ x ∈ xs, (nestedKind P w).is h x.1 x.2.1
  | _, _, .nil, x, hx => nomatch hx
  | _, _, .cons h r, x, hx => by
    rcases List.mem_cons.mp hx with e | hx
    · rw [e, ← h.1]
      exact ⟨NV.is ok _ h.2.1 rfl, h.2.2.1⟩
    · exact NT.is ok r x hx
theorem nd_of {P : Program} {w : World} {H : Hp} {h : Heap} {d : Addr} {xs : List (NestedKey × Addr × Value)} {kvs : List (NestedKey × V)} (ok : HOk P w H h) (e : H d = some (NO w d xs)) (r : NT H kvs xs) (n : (kvs.map (·.1)).Nodup) : (d == sysModules) = false ∧ h.DictOfH (nestedKind P w) d xs := by
  obtain ⟨⟨hs, o, es, ep, h1, h2, h3, h4⟩, _⟩ := (show ObjOk P w H h d (NO w d xs) from ok d _ e)
  exact ⟨hs, o, es, ep, h1, h2, h3, h4, r.is ok, by rw [← r.keys]; exact n⟩
theorem no_ok {P : Program} {w : World} {H : Hp} {h : Heap} {d : Addr} {xs : List (NestedKey × Addr × Value)} (hs : (d == sysModules) = false) (dd : h.DictOfH (nestedKind P w) d xs) : ObjOk P w H h d (NO w d xs) := by
  obtain ⟨o, es, ep, h1, h2, h3, h4, _⟩ := dd
  exact ⟨⟨hs, o, es, ep, h1, h2, h3, h4⟩, ⟨o, h1⟩, fun g1 g2 ⟨z, o, es, ep, a, b, c, e⟩ k => ⟨z, o, es, ep, k _ a, b, c, e⟩⟩
theorem putN_keys {kvs : List (NestedKey × V)} {k : NestedKey} {v : V} (n : (kvs.map (·.1)).Nodup) : ((putN kvs k v).map (·.1)).Nodup := by
  unfold putN
  split
  · rw [List.map_map]
    have : ((fun p : NestedKey × V => p.1) ∘ fun p : NestedKey × V => if p.1 = k then (p.1, v) else p) = fun p => p.1 := by
      funext p; simp only [Function.comp]; split <;> rfl
    rw [this]; exact n
  · rename_i z
    rw [List.map_append, List.nodup_append]
    refine ⟨n, by simp, fun a ha b hb => ?_⟩
    have hb' : b = k := by simpa using hb
    subst hb'
    intro e
    subst e
    obtain ⟨p, hp, rfl⟩ := List.mem_map.mp ha
    apply z
    unfold valN
    rw [Option.isSome_map, List.find?_isSome]
    exact ⟨p, hp, by simp⟩
theorem putN_len (kvs : List (NestedKey × V)) (k : NestedKey) (v : V) : (putN kvs k v).length ≤ kvs.length + 1 := by
  unfold putN
  split
  · rw [List.length_map]; omega
  · rw [List.length_append]; exact Nat.le_refl _
theorem NT.put {H : Hp} {b : Addr} {v : V} {u : Value} {kvs : List (NestedKey × V)} {xs : List (NestedKey × Addr × Value)} (r : NT H kvs xs) (k : NestedKey) (hk : NV H k (.ref b)) (hd : k.depth ≤ 8) (rv : RelV v u) : NT H (putN kvs k v) (storedH xs k b u) := by
  have e : (valN kvs k).isSome = (atKey xs k).isSome := by rw [(r.val k).isSome_eq, Option.isSome_map]
  unfold putN storedH
  rw [e]
  by_cases q : (atKey xs k).isSome = true
  · rw [if_pos q, if_pos q]
    clear e q
    induction r with
    | nil => exact .nil
    | @cons p q ps qs h t ih =>
      refine .cons ?_ ih
      unfold putAt
      dsimp only
      rw [← h.1]
      by_cases z : p.1 = k
      · rw [if_pos z, if_pos z]; exact ⟨rfl, h.2.1, h.2.2.1, rv⟩
      · rw [if_neg z, if_neg z]; exact h
  · rw [if_neg q, if_neg q]
    exact Paired.snoc r ⟨rfl, hk, hd, rv⟩
def tNGet (w : World) (td ti : TE) : TE := fun σ H Q => td σ H fun x H1 => ti σ H1 fun y H2 => ∃ (d b : Addr) (kvs : List (NestedKey × V)) (k : NestedKey) (v : V), x = .ref d ∧ y = .ref b ∧ ND w H2 d kvs ∧ NV H2 k (.ref b) ∧ k.depth ≤ 8 ∧ valN kvs k = some v ∧ Q v H2
def tNIn (w : World) (neg : Bool) (ti td : TE) : TE := fun σ H Q => ti σ H fun y H1 => td σ H1 fun x H2 => ∃ (d b : Addr) (kvs : List (NestedKey × V)) (k : NestedKey), x = .ref d ∧ y = .ref b ∧ ND w H2 d kvs ∧ NV H2 k (.ref b) ∧ k.depth ≤ 8 ∧ Q (.bl (if neg = true then !(valN kvs k).isSome else (valN kvs k).isSome)) H2
def sNPut (w : World) (td ti tv : TE) : TS := fun D σ H => tv σ H fun v H1 => td σ H1 fun x H2 => ti σ H2 fun y H3 => ∃ (d b : Addr) (kvs : List (NestedKey × V)) (k : NestedKey), x = .ref d ∧ y = .ref b ∧ ND w H3 d kvs ∧ NV H3 k (.ref b) ∧ k.depth ≤ 8 ∧ kvs.length < sizeLine ∧ ∀ H', ND w H' d (putN kvs k v) → (∀ a, a ≠ d → H' a = H3 a) → D.nx σ H'
/-- {k: v} -/
def tN1 (w : World) (tk tv : TE) : TE := fun σ H Q => ∀ p, H p = none → tk σ (upd H p (NO w p [])) fun x H1 => tv σ H1 fun y H2 => H2 p = some (NO w p []) ∧ ∃ (b : Addr) (k : NestedKey), x = .ref b ∧ NV H2 k (.ref b) ∧ k.depth ≤ 8 ∧ ∀ H', ND w H' p [(k, y)] → (∀ a, a ≠ p → H' a = H2 a) → Q (.ref p) H'
theorem tup_upd {w : World} {H : Hp} {d : Addr} {xs ys : List (NestedKey × Addr × Value)} (e : H d = some (NO w d xs)) : ∀ a zs, H a = some (.tup zs) → (upd H d (NO w d ys)) a = some (.tup zs) := fun a zs h => by
  rw [upd_ne (fun z => by rw [z, e] at h; exact nomatch (Option.some.inj h))]
  exact h
section
variable {X : Cx} {o i e value : Expr} {pos pos' tpos : Pos} {td ti tv tk : TE}
theorem room_n {X : Cx} (hu : X.A.units + 9 < cLine) : (nestedKind X.prog X.w).room X.A.in1 := by
  show X.A.units + 1 + 8 < cLine
  omega
theorem pe_nget (hu : X.A.units + 9 < cLine) (ho : PE X o td) (hi : PE X i ti) (hs : NoSl i) : PE X (.Subscript o i pos) (tNGet X.w td ti) := by
  refine ⟨fun pins s σ H Q I h => ?_⟩
  refine subD_of PySem.F.slot_dict_getitem.lookup hs (thn (ho.run pins s σ H _ I h) fun u s1 ⟨x, H1, I1, rx, q1⟩ => thn (hi.run pins s1 σ H1 _ I1 q1) fun iv s2 ⟨y, H2, I2, ry, d, b, kvs, k, v, ex, ey, ⟨xs, en, r, n, l⟩, hk, hd, hv, q2⟩ => ?_)
  subst ex ey
  obtain rfl : u = Value.ref d := rx
  obtain rfl : iv = Value.ref b := ry
  obtain ⟨_, dd⟩ := nd_of I2.hok en r n
  obtain ⟨w', hw, rw'⟩ := RelO.some_of (v := v) (o := (atKey xs k).map (·.2)) (by rw [← hv]; exact r.val k)
  obtain ⟨p, hp, rfl⟩ := Option.map_eq_some_iff.mp hw
  exact ⟨dd.typeIs, wpAny_getItem_heap (room_n hu) ⟨NV.is I2.hok k hk rfl, hd⟩ dd hp ⟨v, H2, I2.tok _, rw', q2⟩⟩
theorem pc_nin (hu : X.A.units + 9 < cLine) (hi : PE X i ti) (ho : PE X o td) : PC X .In i o (tNIn X.w false ti td) := by
  refine ⟨fun pins s σ H Q I h => ?_⟩
  refine thn (hi.run pins s σ H _ I h) fun iv s1 ⟨y, H1, I1, ry, q1⟩ => thn (ho.run pins s1 σ H1 _ I1 q1) fun u s2 ⟨x, H2, I2, rx, d, b, kvs, k, ex, ey, ⟨xs, en, r, n, l⟩, hk, hd, q2⟩ => ?_
  subst ex ey
  obtain rfl : u = Value.ref d := rx
  obtain rfl : iv = Value.ref b := ry
  obtain ⟨hs, dd⟩ := nd_of I2.hok en r n
  refine wpAny_in_heap (room_n hu) ⟨NV.is I2.hok k hk rfl, hd⟩ hs dd ?_
  have e := (r.val k).isSome_eq
  rw [Option.isSome_map] at e
  rw [← e]
  exact ⟨.bl _, H2, I2.tok _, rfl, q2⟩
theorem pc_nnotin (hu : X.A.units + 9 < cLine) (hi : PE X i ti) (ho : PE X o td) : PC X .NotIn i o (tNIn X.w true ti td) := by
  refine ⟨fun pins s σ H Q I h => ?_⟩
  refine thn (hi.run pins s σ H _ I h) fun iv s1 ⟨y, H1, I1, ry, q1⟩ => thn (ho.run pins s1 σ H1 _ I1 q1) fun u s2 ⟨x, H2, I2, rx, d, b, kvs, k, ex, ey, ⟨xs, en, r, n, l⟩, hk, hd, q2⟩ => ?_
  subst ex ey
  obtain rfl : u = Value.ref d := rx
  obtain rfl : iv = Value.ref b := ry
  obtain ⟨hs, dd⟩ := nd_of I2.hok en r n
  refine wpAny_notIn_heap (room_n hu) ⟨NV.is I2.hok k hk rfl, hd⟩ hs dd ?_
  have e := (r.val k).isSome_eq
  rw [Option.isSome_map] at e
  rw [← e]
  exact ⟨.bl _, H2, I2.tok _, rfl, q2⟩
theorem ps_nput (hu : X.A.units + 9 < cLine) (ho : PE X o td) (hi : PE X i ti) (hv : PE X value tv) (hs : swapsWith value (some (.Subscript o i pos')) pos.line X.env = pure false) :
    PS X (.Assign [.Subscript o i pos'] value pos) (sNPut X.w td ti tv) := by
  refine ⟨fun pins s σ H D I h => ?_⟩
  refine wpAny_Assign_Subscript (thn (hv.run pins s σ H _ I h) fun rv s1 ⟨v, H1, I1, rr, q1⟩ => thn (ho.run pins s1 σ H1 _ I1 q1) fun u s2 ⟨x, H2, I2, rx, q2⟩ => thn (hi.run pins s2 σ H2 _ I2 q2) fun iv s3 ⟨y, H3, I3, ry, d, b, kvs, k, ex, ey, ⟨xs, en, r, n, l⟩, hk, hd, hl, q3⟩ => ?_) hs
  subst ex ey
  obtain rfl : u = Value.ref d := rx
  obtain rfl : iv = Value.ref b := ry
  obtain ⟨hsm, dd⟩ := nd_of I3.hok en r n
  have hz : xs.length ≤ sizeLine := by rw [← r.len]; exact l
  refine wpAny_setItem_heap (hsz := hz) (room_n hu) ⟨NV.is I3.hok k hk rfl, hd⟩ dd fun h' dd' hb => ?_
  have he : ∃ q, h'.get? d = some q := let ⟨q, _, _, hq, _⟩ := dd'; ⟨q, hq⟩
  have I4 := d_write (t' := s3.toks + (nestedKind X.prog X.w).draws k) I3 (by rw [en]; exact True.intro) hb he (no_ok (P := X.prog) (H := upd H3 d (NO X.w d (storedH xs k b rv))) hsm dd')
  exact ⟨σ, _, I4, q3 _ ⟨_, upd_same, (r.put k hk hd rr).keep (tup_upd en), putN_keys n, by have := putN_len kvs k v; omega⟩ fun a ha => upd_ne ha⟩
theorem no_empty {P : Program} {w : World} {H : Hp} (h : Heap) (hb : sysModules < h.objs.size) : ObjOk P w H (h.push { cls := .type "dict", data := .dict #[] }) h.objs.size (NO w h.objs.size []) :=
  no_ok (beq_eq_false_iff_ne.mpr (Ne.symm (Nat.ne_of_lt hb))) (Heap.DictOfH.new h)
theorem pe_disp1N (hu : X.A.units + 8 < cLine) (hk : PE X e tk) (hv : PE X value tv) : PE X (.Dict [some e] [value] pos) (tN1 X.w tk tv) := by
  refine ⟨fun pins s σ H Q I q => ?_⟩
  have hn := I.hok.fresh (Nat.le_refl s.heap.objs.size)
  have I1 := I.laid (a := s.heap.objs.size) (o := NO X.w s.heap.objs.size []) (h' := s.heap.push { cls := .type "dict", data := .dict #[] }) (t' := s.toks) (fun _ _ q => Heap.get?_push_of_some _ q) (Nat.le_refl _) (no_empty s.heap I.big)
  have pr : PPs X pos [some e] [value] [(tk, tv)] := pps_cons hk hv pps_nil
  have hp : (pairTrees [some e] [value] X.env pos).length = 1 := pairTrees_length _ _ _ _ rfl rfl
  have h0 : pairTrees [some e] [value] X.env pos ≠ [] := fun z => by rw [z] at hp; cases hp
  have run := pr.run pins _ σ _ (fun ps H2 => match ps with
    | [(x, y)] => H2 s.heap.objs.size = some (NO X.w s.heap.objs.size []) ∧ ∃ (b : Addr) (k : NestedKey), x = .ref b ∧ NV H2 k (.ref b) ∧ k.depth ≤ 8 ∧ ∀ H', ND X.w H' s.heap.objs.size [(k, y)] → (∀ a, a ≠ s.heap.objs.size → H' a = H2 a) → Q (.ref s.heap.objs.size) H'
    | _ => False) I1 (q _ hn)
  rw [arm_eval_Dict, zip_pairTrees [some e] [value] X.env pos rfl rfl, dictDisplay_pairs _ h0 (by rw [hp]; exact Nat.le_of_ble_eq_true rfl)]
  refine wpAny_bind (wpAny_standAt (wpAny_bind (wpAny_subDictH (knd := nestedKind X.prog X.w) hu (by rw [hp]; exact Nat.le_of_ble_eq_true rfl) (thn run fun ws s2 ⟨ps, H2, I2, rel, q2⟩ => ?_))))
  cases rel with
  | nil => exact q2.elim
  | @cons p0 w0 pr0 wr0 h1 t =>
    cases t with
    | cons _ _ => exact q2.elim
    | nil =>
      obtain ⟨x, y⟩ := p0
      obtain ⟨kv, vv⟩ := w0
      obtain ⟨rk, ry⟩ := h1
      obtain ⟨en, b, k, ex, hk, hd, q3⟩ := q2
      subst ex
      obtain rfl : kv = Value.ref b := rk
      obtain ⟨hsm, dd⟩ := nd_of (kvs := []) I2.hok en .nil List.nodup_nil
      refine ⟨[(k, b, vv)], ⟨rfl, rfl, ⟨NV.is I2.hok k hk rfl, hd⟩, True.intro⟩, dd, fun h' tk' dd' hb => wpAny_pure ?_⟩
      have he : ∃ q, h'.get? s.heap.objs.size = some q := let ⟨q, _, _, hq, _⟩ := dd'; ⟨q, hq⟩
      have I4 := d_write (t' := tk') I2 (by rw [en]; exact True.intro) hb he (no_ok (P := X.prog) (H := upd H2 s.heap.objs.size (NO X.w s.heap.objs.size [(k, b, vv)])) hsm dd')
      exact ⟨.ref s.heap.objs.size, _, I4, rfl, q3 _ ⟨_, upd_same, .cons ⟨rfl, NV.keep (tup_upd en) k hk, hd, ry⟩ .nil, by simp, by simp; decide⟩ fun a ha => upd_ne ha⟩
end
end FYR

set_option Elab.async false
set_option linter.all false
set_option maxRecDepth 100000
set_option maxHeartbeats 4000000
/-! further rules: zip of two texts, extend by a tuple, text * int, calls by keywords alone -/
namespace FYR
open PySem PySem.Spec PyProof.Rows L2

/-! ### zip of two texts -/
def Itzs (x y : Str) : It :=
  ⟨fun i _ => i < min x.cps.size y.cps.size,
    fun i H v H' => ∃ (T : Addr) (c d : Nat), v = .ref T ∧ H T = none ∧ H' = upd H T (.tup [.str ⟨#[c]⟩, .str ⟨#[d]⟩]) ∧ x.cps[i]? = some c ∧ y.cps[i]? = some d,
    fun i _ => i = min x.cps.size y.cps.size⟩
theorem turn_zipS {P : Program} {w : World} {K : PySem.W.Frag} {elts : List Expr} {kk : Nat} {tpos : Pos} {x y : Str} {t u : Tok} {z TI TO i1 i2 : Addr} (S : ZipSep2 z TI TO i1 i2 [i1] [i2]) :
    Turn P w K (.Tuple elts kk tpos) (Itzs x y) (z :: TI :: TO :: ([i1] ++ [i2])) z (fun i h => IsZip h z TI TO .none ∧ IsTupOf2 h TI (.ref i1) (.ref i2) ∧ (∃ a1 a2, IsTupOf2 h TO a1 a2) ∧ h.IsStrIter i1 (strIterType x) x t i ∧ h.IsStrIter i2 (strIterType y) y u i) where
  mem := by simp
  obj := fun i h st c hc => by
    obtain ⟨hz, hTI, ⟨x', y', hTO⟩, ⟨o1, e1, _, d1⟩, ⟨o2, e2, _, d2⟩⟩ := st
    have e' : c = z ∨ c = TI ∨ c = TO ∨ c = i1 ∨ c = i2 := by simpa using hc
    rcases e' with q | q | q | q | q
    · rw [q]; exact ⟨_, hz, fun v q => nomatch q⟩
    · rw [q]; exact ⟨_, hTI, fun v q => nomatch q⟩
    · rw [q]; exact ⟨_, hTO, fun v q => nomatch q⟩
    · rw [q]; exact ⟨o1, e1, fun v q => by rw [d1] at q; cases q⟩
    · rw [q]; exact ⟨o2, e2, fun v q => by rw [d2] at q; cases q⟩
  keep := fun i h h' st k => by
    obtain ⟨hz, hTI, ⟨x', y', hTO⟩, ⟨o1, e1, c1, d1⟩, ⟨o2, e2, c2, d2⟩⟩ := st
    exact ⟨k z (by simp) _ hz, k TI (by simp) _ hTI, ⟨x', y', k TO (by simp) _ hTO⟩, ⟨o1, k i1 (by simp) _ e1, c1, d1⟩, ⟨o2, k i2 (by simp) _ e2, c2, d2⟩⟩
  item := by
    intro X hP hw hK hc i pins s σ H E I hf st hg
    subst hP hw hK
    have hh : X.A.in1.handled = none := I.ok.hd hc
    have W := WalksT.zipD2 (prog := X.prog) (w := X.w) (A := X.A) S (Draws.text hh i1 x t) (Draws.text hh i2 y u)
    refine W.item i s _ _ hg st fun T vals h' tk hp hT ht mid hk => ?_
    obtain ⟨x1, x2, ⟨c, t1, hc1, rfl⟩, ⟨d, t2, hd1, rfl⟩, rfl⟩ := hp
    refine ⟨_, rfl, W.go elts kk tpos i T { s with heap := h', toks := tk } _ _ mid fun h'' st'' hk2 => ?_⟩
    obtain ⟨oT, eT, cT, nT, dT⟩ := ht
    have hT2 : h''.get? T = some oT := hk2 _ _ (W.apart _ _ _ mid) eT
    have new : ObjOk X.prog X.w (upd H T (.tup [.str ⟨#[c]⟩, .str ⟨#[d]⟩])) h'' T (.tup [.str ⟨#[c]⟩, .str ⟨#[d]⟩]) :=
      ⟨by show 2 ≤ sizeLine; decide, [_, _], .cons ⟨_, rfl⟩ (.cons ⟨_, rfl⟩ .nil), ⟨_, hT2, cT, nT, dT⟩⟩
    have sub : ∀ b ∈ ([z, TO, i1, i2] : List Addr), b ∈ (z :: TI :: TO :: ([i1] ++ [i2])) := fun b hb => W.sub b hb
    have I1 : Inv X pins σ (upd H T (.tup [.str ⟨#[c]⟩, .str ⟨#[d]⟩])) { s with heap := h'', toks := tk } :=
      I.turnedNew (t' := tk) (ch := [z, TO, i1, i2]) (fun c o hb q => hk2 c o hb (hk c o hb q)) (fun b hb => hf b (sub b hb)) hT new
    refine ⟨.ref T, _, I1, rfl, ⟨T, c, d, rfl, I.hok.fresh hT, rfl, hc1, hd1⟩, st'', fun b hb => ?_⟩
    have hlt : b < s.heap.objs.size := by
      obtain ⟨hz, hTI, ⟨x', y', hTO⟩, ⟨o1, e1, c1, d1⟩, ⟨o2, e2, c2, d2⟩⟩ := st
      have e' : b = z ∨ b = TI ∨ b = TO ∨ b = i1 ∨ b = i2 := by simpa using hb
      rcases e' with q | q | q | q | q
      · rw [q]; exact Heap.lt_size hz
      · rw [q]; exact Heap.lt_size hTI
      · rw [q]; exact Heap.lt_size hTO
      · rw [q]; exact Heap.lt_size e1
      · rw [q]; exact Heap.lt_size e2
    rw [upd_ne (Nat.ne_of_lt (Nat.lt_of_lt_of_le hlt hT))]
    exact (hf b hb).1
  done := by
    intro X hP hw hK hc i pins s σ H E I hf st hg
    subst hP hw hK
    have hh : X.A.in1.handled = none := I.ok.hd hc
    have W := WalksT.zipD2 (prog := X.prog) (w := X.w) (A := X.A) S (Draws.text hh i1 x t) (Draws.text hh i2 y u)
    have sub : ∀ b ∈ ([z, TO, i1, i2] : List Addr), b ∈ (z :: TI :: TO :: ([i1] ++ [i2])) := fun b hb => W.sub b hb
    have hi : i = min x.cps.size y.cps.size := hg
    subst hi
    exact W.done s _ _ st fun h' tk hk => ⟨rfl, I.turnedL (t' := tk) (ch := [z, TO, i1, i2]) (fun c o hb q => hk c o hb q) (fun b hb => hf b (sub b hb))⟩
  self := fun A i s Q E st h => wpAny_pyIter_zip st.1 h

def iZipS (ta : TA) : TI := fun σ H R => ta σ H fun vs H1 => ∃ x y, vs = [.str x, .str y] ∧ R (Itzs x y) H1
theorem pi_zipS {X : Cx} {e e2 : Expr} {ta : TA} {p pos tpos : Pos} {elts : List Expr} {kk : Nat} (hg : Gl X "zip") (hm : X.mg "zip" = none) (ha : PA X [e, e2] ta)
    (hs : starEach [e, e2] X.env = (false, eval e X.env) :: starEach [e2] X.env := by rfl) (hpl : (backTo pos (starEach [e2] X.env)).any (·.1) = false := by rfl) :
    PI X (.Tuple elts kk tpos) (.Call (.Name "zip" p) [e, e2] [] pos) (iZipS ta) := by
  refine ⟨fun pins s σ H R I h => ?_⟩
  refine Call_ (ld_blt I hg hm PyProof.Rows.boot_zip (PyProof.Rows.callWith_type1 (thn (ha.run pos pins s σ H _ I h) fun us s1 ⟨vs, H1, I1, r1, q1⟩ => ?_) hs hpl))
  obtain ⟨x, y, ex, q1⟩ := q1
  subst ex
  cases r1 with
  | cons r rr =>
    cases rr with
    | cons r' rr =>
      cases rr
      obtain ⟨t, rfl⟩ := r
      obtain ⟨u, rfl⟩ := r'
      have fresh5 : ∀ c, c ∈ ((s1.heap.objs.size + 4) :: (s1.heap.objs.size + 2) :: (s1.heap.objs.size + 3) :: ([s1.heap.objs.size] ++ [s1.heap.objs.size + 1])) → FpOk X pins H1 c := fun c hcm => by
        have e' : c = s1.heap.objs.size + 4 ∨ c = s1.heap.objs.size + 2 ∨ c = s1.heap.objs.size + 3 ∨ c = s1.heap.objs.size ∨ c = s1.heap.objs.size + 1 := by simpa using hcm
        have hle : s1.heap.objs.size ≤ c := by
          rcases e' with z | z | z | z | z
          · rw [z]; exact Nat.le_add_right _ _
          · rw [z]; exact Nat.le_add_right _ _
          · rw [z]; exact Nat.le_add_right _ _
          · rw [z]; exact Nat.le_refl _
          · rw [z]; exact Nat.le_add_right _ _
        exact I1.fpOk hle (I1.hok.fresh hle)
      refine zip_begins2 (begins_text x t) (begins_text y u) trivial trivial fun h' hz hTI hTO h1 h2 hsz hk => wpAny_pyIter_zip hz ?_
      have I2 : Inv X pins σ H1 { s1 with heap := h' } := I1.kept (t' := s1.toks) hk
      exact ⟨s1.heap.objs.size + 4, _, _, _, H1, rfl, I2, turn_zipS (x := x) (y := y) (t := t) (u := u) (zip_sep2 (fp1 := []) (fp2 := []) (by simp) (by simp)), ⟨hz, hTI, ⟨_, _, hTO⟩, ⟨_, h1, rfl, rfl⟩, ⟨_, h2, rfl, rfl⟩⟩, fresh5, q1⟩
theorem walk_zipS {x y : Str} : Walk (Itzs x y) (min x.cps.size y.cps.size) (fun _ => True) (fun i H v H' => ∃ (T : Addr) (c d : Nat), v = .ref T ∧ H T = none ∧ H' = upd H T (.tup [.str ⟨#[c]⟩, .str ⟨#[d]⟩]) ∧ x.cps[i]? = some c ∧ y.cps[i]? = some d) :=
  ⟨fun _ _ hi _ => hi, fun _ _ => rfl, fun _ _ _ _ _ _ y => y⟩

/-! ### extend by a tuple -/
theorem list_extend_tup (l : Addr) (items : Array Value) (n : Nat) (b : Addr) (items2 : Array Value) (n2 : Nat) (db : Option Addr) (sb : Array (Option Value)) (hs0 : ¬(!items.isEmpty && Builtin.List.listTooLong (items.size + items2.size)) = true) (hs1 : items.size ≤ sizeLine) (hs2 : items.size + items2.size ≤ sizeLine + 1) :
    Meets (Builtin.«list.extend» ⟨[.ref l, .ref b], []⟩) (fun _ R s => s.heap.get? l = some { cls := .type "list", dict := none, data := .seq items n, slots := #[] } ∧ s.heap.get? b = some { cls := .type "tuple", dict := db, data := .seq items2 n2, slots := sb } ∧ R (.ok (.ret Value.none)) { s with heap := s.heap.update l (Obj.mapSeq fun x => x ++ items2), toks := s.toks }) :=
  .of_wp fun prog w A R s h => by
    obtain ⟨hp, g, d, tk, os⟩ := s; obtain ⟨hl, hb, h⟩ := h; have f1 := AutoSeq1.idx_int; have f2 := AutoSeq1.sub_tuple_tuple; have f3 := AutoSeq1.sub_list_list; have f4 := AutoSeq1.sub_tuple_list; have f5 := AutoSeq1.sub_list_tuple;
    have hz' : (items ++ items2).size ≤ sizeLine + 1 := by rw [Array.size_append]; exact hs2
    wp_walk using (wpAny_updateSeq hl rfl (hz := hs1) (_hz' := hz')), AutoSeq1.wpAny_loadPart' hl, AutoSeq1.wpAny_loadPart' hb; exact ⟨_, rfl, h⟩
def rExtendT (K : PySem.W.Frag) : V → List V → Hp → VK → Prop := fun x vs H Q => ∃ l b xs zs, x = .ref l ∧ vs = [.ref b] ∧ H l = some (.lst xs) ∧ SqT K H b zs ∧ xs.length + zs.length ≤ sizeLine ∧ Q .non (upd H l (.lst (xs ++ zs)))
theorem mt_extendT {X : Cx} : MtM X "list.extend" (rExtendT X.K) := by
  intro pins s σ H x vs v us Q I rx rv h
  obtain ⟨l, b, xs, zs, rfl, rfl, hH, hB, hz, q⟩ := h
  cases rx
  obtain ⟨u, rfl, ru⟩ := rv.one
  cases ru
  obtain ⟨z, its, n, r, hl, e⟩ := I.lstM hH
  obtain ⟨its2, r2, p2, z2⟩ := I.tuple hB
  have l2 := r2.length
  obtain ⟨o2, e2, c2, n2, d2⟩ := p2
  have hsz : its.toArray.size + its2.toArray.size ≤ sizeLine := by rw [List.size_toArray, List.size_toArray]; omega
  have hlong : ¬ (!its.toArray.isEmpty && Builtin.List.listTooLong (its.toArray.size + its2.toArray.size)) = true := by
    rw [notLongL hsz, Bool.and_false]
    exact Bool.false_ne_true
  obtain ⟨cls2, db, dat2, sb⟩ := o2
  have c2' : cls2 = .type "tuple" := c2
  have d2' : dat2 = .seq its2.toArray n2 := d2
  subst c2' d2'
  refine call_meets F.slot_list_extend ⟨_, e, rfl⟩ F.entry_list_extend (F.args_list_extend_2 _ _)
    (list_extend_tup l its.toArray n b its2.toArray n2 db sb hlong (by rw [List.size_toArray]; omega) (by omega)) ⟨e, e2, ?_⟩
  refine ⟨.non, _, I.lset (its' := its ++ its2) hH e (by simp) (r.append r2) ?_, rfl, q⟩
  rw [List.length_append]
  omega

/-! ### text * int -/
def rMulS : R2 := fun x y H Q => ∃ z k, x = .str z ∧ y = .int k ∧ MulOk z k ∧ Q (.str (Txt.mul z k)) H
theorem op_mul_str {X : Cx} : OpR X (binaryOp .Mult) rMulS := by
  intro pins s σ H x y v u Q I rx ry h
  obtain ⟨z, k, rfl, rfl, hok, q⟩ := h
  obtain ⟨t, rfl⟩ := rx
  obtain ⟨t', rfl⟩ := ry
  exact SB.mul hok fun t' k => ⟨.str _, H, I.tok _, ⟨_, rfl⟩, q⟩

/-! ### f(k = v, ..) -/
section
variable {X : Cx} {CX : CXT} {k : Nat} {f C : Addr} {fd : FuncData} {ps ks : List Str} {sp : Sp} {E : XK} {x m : Str} {p pos apos kpos : Pos} {kws : List Keyword} {tk : TA} {g : List Value → List Value → List Value} {gV : List V → List V → List V}
def tCallN0 (n : Nat) (sp : Sp) (gV : List V → List V → List V) (E : XK) (tk : TA) : TE := fun σ H Q => tk σ H fun zs H2 => zs.length = n ∧ sp (gV [] zs) H2 Q E
theorem pe_callN0 (F : FnOk X.prog X.w X.K X.mg X.base CX k f fd ps sp) (hr : Room k X.A) (hg : Gl X x) (hm : X.mg x = some (.ref f)) (hk : PySem.W.keepIn X.K (.ref f) = true) (hb : KBn X.K fd ps 0 ks g gV) (hx : Passes CX X E)
    (hkw : PK X kws tk) (hall : (backToKw pos (keywordEach kws X.env)).all (·.1.isSome) = true := by rfl) (hks : (backToKw pos (keywordEach kws X.env)).filterMap (·.1) = ks := by rfl)
    (hdb : (x == ("__debug__" : Str)) = false := by decide)
    (hpl : ((backTo pos (starEach [] X.env)).any (·.1) || (backToKw pos (keywordEach kws X.env)).any (·.1.isNone)) = false := by rfl) :
    PE X (.Call (.Name x p) [] kws pos) (tCallN0 ks.length sp gV E tk) := by
  refine ⟨fun pins s σ H Q I h => ?_⟩
  refine wpAny_Call_Name_kw (ld_glob I hg hm ?_ hdb)
  refine PySem.W.callWith_KW0 (h₀ := X.base) I.ok.mod.kin hk hall ?_ hpl
  refine thn (hkw.run pos pins s σ H _ I h) fun ws s2 ⟨zs, H2, I2, rz, l2, q2⟩ => ⟨I2.kIn, ?_⟩
  rw [hks]
  exact run_fnN (us := []) (vs := []) F hr hb hx I2 .nil rz rfl l2 q2
end
end FYR

set_option Elab.async false
set_option linter.all false
set_option maxRecDepth 100000
set_option maxHeartbeats 4000000
/-! list(zip(x, y)) of two texts -/
namespace FYR
open PySem PySem.Spec PyProof.Rows L2
section
variable {prog : Program} {w : World} {A : Around} {E : Value → Shared → Prop} {s : Shared} {z TI TO i1 i2 : Addr} {fp1 fp2 : List Addr} {n1 n2 i : Nat} {P1 P2 : Nat → Value → Prop} {St1 St2 : Nat → Heap → Prop} {T : Addr} {f : Bool} {oT : Obj}
theorem zipH_next_item {Q : Value → Shared → Prop} (S : ZipSep2 z TI TO i1 i2 fp1 fp2) (D1 : Draws prog w A i1 fp1 n1 P1 St1) (D2 : Draws prog w A i2 fp2 n2 P2 St2)
    (hz : IsZipHeld s.heap z TI TO T f) (hT : s.heap.get? T = some oT) (hTI : IsTupOf2 s.heap TI (.ref i1) (.ref i2)) (st1 : St1 i s.heap) (st2 : St2 i s.heap) (hlt1 : i < n1) (hlt2 : i < n2)
    (hQ : ∀ x1 x2 h' tk, P1 i x1 → P2 i x2 → IsZipHeld h' z TI TO T true → St1 (i + 1) h' → St2 (i + 1) h' → IsTupOf2 h' s.heap.objs.size x1 x2 → h'.objs.size = s.heap.objs.size + 1 →
      (∀ c o, c ≠ z → c ≠ i1 → c ≠ i2 → s.heap.get? c = some o → h'.get? c = some o) → Q (.ref s.heap.objs.size) { s with heap := h', toks := tk }) :
    wpAny (model prog w) A (Builtin.«zip.__next__» ⟨[.ref z], []⟩) (fun fin s' => ∃ v, fin = .done (.ret v) ∧ Q v s') E s := by
  obtain ⟨hp, g, d, tk0, os⟩ := s
  show wpAny _ _ (field (.ref z) 2 >>= _) _ _ _
  refine wpAny_bind (wpAny_field hz rfl (x := .bool false) rfl ?_)
  show wpAny _ _ (field (.ref z) 3 >>= _) _ _ _
  refine wpAny_bind (wpAny_field hz rfl (x := .ref TI) rfl ?_)
  refine wpAny_bind (wpAny_seqItems hTI rfl ?_)
  show wpAny _ _ (Builtin.SmallTypes.ownedTupleIsFree (.ref z) >>= _) _ _ _
  refine wpAny_bind (wpAny_tupleHeld_zip hz hT fun h₁ hz₁ hs₁ => ?_)
  simp only [Bool.false_eq_true, if_false]
  refine wpAny_bind ?_
  rw [← Array.forIn_toList]
  simp only [List.forIn_cons, List.forIn_nil]
  refine wpAny_bind (wpAny_bind (wpAny_holding ?_))
  show wpAny _ _ (Builtin.SmallTypes.nextOf (.ref i1) >>= _) _ _ ⟨h₁, g, d, tk0, os⟩
  refine wpAny_bind (D1.item i _ _ _ hlt1 (D1.over st1 hs₁ S.zf1) fun x1 h₂ tk1 hx1 sn1 hs₂ => wpAny_pure ?_)
  replace hs₂ : Heap.SameBut i1 h₁ h₂ := hs₂
  refine wpAny_pure ?_
  refine wpAny_bind (wpAny_bind (wpAny_holding ?_))
  show wpAny _ _ (Builtin.SmallTypes.nextOf (.ref i2) >>= _) _ _ ⟨h₂, g, d, tk1, os⟩
  refine wpAny_bind (D2.item i _ _ _ hlt2 (D2.over (D2.over st2 hs₁ S.zf2) hs₂ S.sep1_2) fun x2 h₃ tk2 hx2 sn2 hs₃ => wpAny_pure ?_)
  replace hs₃ : Heap.SameBut i2 h₂ h₃ := hs₃
  refine wpAny_pure (wpAny_pure ?_)
  show wpAny _ _ (newTuple [x1, x2] >>= _) _ _ ⟨h₃, g, d, tk2, os⟩
  refine wpAny_bind (wpAny_newTuple ?_)
  have hsz : h₃.objs.size = hp.objs.size := by rw [hs₃.1, hs₂.1, hs₁.1]
  have hz₃ : IsZipHeld h₃ z TI TO T true := hs₃.extBut _ _ S.zi2 (hs₂.extBut _ _ S.zi1 hz₁)
  have hk : ∀ c o, c ≠ z → c ≠ i1 → c ≠ i2 → hp.get? c = some o → h₃.get? c = some o := fun c o c1 c2 c3 e => hs₃.extBut _ _ c3 (hs₂.extBut _ _ c2 (hs₁.extBut _ _ c1 e))
  have hj1 : St1 (i + 1) h₃ := D1.over sn1 hs₃ S.sep2_1
  refine wpAny_pure ⟨_, rfl, ?_⟩
  show Q (.ref h₃.objs.size) ⟨h₃.push { cls := .type "tuple", data := .seq #[x1, x2] }, g, d, tk2, os⟩
  have hp' : IsTupOf2 (h₃.push { cls := .type "tuple", data := .seq #[x1, x2] }) h₃.objs.size x1 x2 := Heap.get?_push_size _ rfl
  have hz4 : (h₃.push { cls := .type "tuple", data := .seq #[x1, x2] }).objs.size = h₃.objs.size + 1 := Heap.size_push ..
  rw [hsz] at hp' hz4 ⊢
  exact hQ x1 x2 _ tk2 hx1 hx2 (Heap.get?_push_of_some _ hz₃) (D1.frame _ _ _ hj1 fun b _ o e => Heap.get?_push_of_some _ e) (D2.frame _ _ _ sn2 fun b _ o e => Heap.get?_push_of_some _ e) hp' hz4 fun c o c1 c2 c3 e => Heap.get?_push_of_some _ (hk c o c1 c2 c3 e)
theorem zipH_next_end {Q : Fin → Shared → Prop} (S : ZipSep2 z TI TO i1 i2 fp1 fp2) (D1 : Draws prog w A i1 fp1 n1 P1 St1) (D2 : Draws prog w A i2 fp2 n2 P2 St2)
    (hz : IsZipHeld s.heap z TI TO T f) (hT : s.heap.get? T = some oT) (hTI : IsTupOf2 s.heap TI (.ref i1) (.ref i2)) (st1 : St1 i s.heap) (st2 : St2 i s.heap) (hle1 : i ≤ n1) (hle2 : i ≤ n2) (hend : i = n1 ∨ i = n2)
    (hE : ∀ h' tk e, (∀ c o, c ≠ z → c ≠ i1 → c ≠ i2 → s.heap.get? c = some o → h'.get? c = some o) → (∃ o, h'.get? e = some o ∧ o.cls = .type "StopIteration") → E (.ref e) { s with heap := h', toks := tk }) :
    wpAny (model prog w) A (Builtin.«zip.__next__» ⟨[.ref z], []⟩) Q E s := by
  obtain ⟨hp, g, d, tk0, os⟩ := s
  show wpAny _ _ (field (.ref z) 2 >>= _) _ _ _
  refine wpAny_bind (wpAny_field hz rfl (x := .bool false) rfl ?_)
  show wpAny _ _ (field (.ref z) 3 >>= _) _ _ _
  refine wpAny_bind (wpAny_field hz rfl (x := .ref TI) rfl ?_)
  refine wpAny_bind (wpAny_seqItems hTI rfl ?_)
  show wpAny _ _ (Builtin.SmallTypes.ownedTupleIsFree (.ref z) >>= _) _ _ _
  refine wpAny_bind (wpAny_tupleHeld_zip hz hT fun h₁ hz₁ hs₁ => ?_)
  simp only [Bool.false_eq_true, if_false]
  refine wpAny_bind ?_
  rw [← Array.forIn_toList]
  simp only [List.forIn_cons, List.forIn_nil]
  refine wpAny_bind (wpAny_bind (wpAny_holding ?_))
  show wpAny _ _ (Builtin.SmallTypes.nextOf (.ref i1) >>= _) _ _ ⟨h₁, g, d, tk0, os⟩
  by_cases hi : i = n1
  · subst hi
    refine wpAny_bind (D1.done _ _ _ (D1.over st1 hs₁ S.zf1) fun h₂ e hs₂ he => ?_)
    exact hE h₂ tk0 e (fun c o c1 c2 _ x => hs₂ _ _ c2 (hs₁.extBut _ _ c1 x)) he
  · have h2 : i = n2 := hend.resolve_left hi
    subst h2
    refine wpAny_bind (D1.item i _ _ _ (by omega) (D1.over st1 hs₁ S.zf1) fun x1 h₂ tk1 hx1 sn1 hs₂ => wpAny_pure ?_)
    replace hs₂ : Heap.SameBut i1 h₁ h₂ := hs₂
    refine wpAny_pure ?_
    refine wpAny_bind (wpAny_bind (wpAny_holding ?_))
    show wpAny _ _ (Builtin.SmallTypes.nextOf (.ref i2) >>= _) _ _ ⟨h₂, g, d, tk1, os⟩
    refine wpAny_bind (D2.done _ _ _ (D2.over (D2.over st2 hs₁ S.zf2) hs₂ S.sep1_2) fun h₃ e hs₃ he => ?_)
    exact hE h₃ tk1 e (fun c o c1 c2 c3 x => hs₃ _ _ c3 (hs₂.extBut _ _ c2 (hs₁.extBut _ _ c1 x))) he
theorem pyNext_zipH_item {Q : Option Value → Shared → Prop} (S : ZipSep2 z TI TO i1 i2 fp1 fp2) (D1 : Draws prog w A.in1 i1 fp1 n1 P1 St1) (D2 : Draws prog w A.in1 i2 fp2 n2 P2 St2)
    (hz : IsZipHeld s.heap z TI TO T f) (hT : s.heap.get? T = some oT) (hTI : IsTupOf2 s.heap TI (.ref i1) (.ref i2)) (st1 : St1 i s.heap) (st2 : St2 i s.heap) (hlt1 : i < n1) (hlt2 : i < n2)
    (hQ : ∀ x1 x2 h' tk, P1 i x1 → P2 i x2 → IsZipHeld h' z TI TO T true → St1 (i + 1) h' → St2 (i + 1) h' → IsTupOf2 h' s.heap.objs.size x1 x2 → h'.objs.size = s.heap.objs.size + 1 →
      (∀ c o, c ≠ z → c ≠ i1 → c ≠ i2 → s.heap.get? c = some o → h'.get? c = some o) → Q (some (.ref s.heap.objs.size)) { s with heap := h', toks := tk }) :
    wpAny (model prog w) A (pyNext (.ref z)) Q E s := by
  have hTy : s.TypeIs (.ref z) "zip" := ⟨_, hz, rfl⟩
  unfold pyNext
  exact wpAny_bind (wpAny_attempt (wpAny_callSpecial?_slot (name := Str.ofString "__next__") hTy F.slot_zip_next
    (wpAny_call_entry F.slot_zip_next hTy F.entry_zip_next
      (zipH_next_item S D1 D2 hz hT hTI st1 st2 hlt1 hlt2 fun x1 x2 h' tk y1 y2 b1 d1 d2 b5 b6 b7 => wpAny_pure (hQ x1 x2 h' tk y1 y2 b1 d1 d2 b5 b6 b7)) (F.args_zip_next_1 _))))
theorem pyNext_zipH_end {Q : Option Value → Shared → Prop} (S : ZipSep2 z TI TO i1 i2 fp1 fp2) (D1 : Draws prog w A.in1 i1 fp1 n1 P1 St1) (D2 : Draws prog w A.in1 i2 fp2 n2 P2 St2)
    (hz : IsZipHeld s.heap z TI TO T f) (hT : s.heap.get? T = some oT) (hTI : IsTupOf2 s.heap TI (.ref i1) (.ref i2)) (st1 : St1 i s.heap) (st2 : St2 i s.heap) (hle1 : i ≤ n1) (hle2 : i ≤ n2) (hend : i = n1 ∨ i = n2)
    (hQ : ∀ h' tk, (∀ c o, c ≠ z → c ≠ i1 → c ≠ i2 → s.heap.get? c = some o → h'.get? c = some o) → Q none { s with heap := h', toks := tk }) : wpAny (model prog w) A (pyNext (.ref z)) Q E s := by
  have hTy : s.TypeIs (.ref z) "zip" := ⟨_, hz, rfl⟩
  unfold pyNext
  refine wpAny_bind (wpAny_attempt (wpAny_callSpecial?_slot (name := Str.ofString "__next__") hTy F.slot_zip_next
    (wpAny_call_entry F.slot_zip_next hTy F.entry_zip_next (zipH_next_end S D1 D2 hz hT hTI st1 st2 hle1 hle2 hend fun h' tk e hk he => ?_) (F.args_zip_next_1 _))))
  obtain ⟨o, ho, hc⟩ := he
  refine wpAny_bind (wpAny_isInstance (T := "StopIteration") (b := true) ⟨o, ho, hc⟩ isSubtype_stop ?_)
  exact wpAny_pure (hQ _ _ hk)
/-- the zip ahead of turn i, a tuple out or none -/
def ZSt (z TI TO i1 i2 S : Addr) (St1 St2 : Nat → Heap → Prop) (i : Nat) (h : Heap) : Prop :=
  IsTupOf2 h TI (.ref i1) (.ref i2) ∧ St1 i h ∧ St2 i h ∧ ((IsZip h z TI TO .none ∧ ∃ a1 a2, IsTupOf2 h TO a1 a2) ∨ ∃ T f oT, IsZipHeld h z TI TO T f ∧ h.get? T = some oT ∧ S < T)
theorem zst_item {Sl : Addr} {Q : Option Value → Shared → Prop} (S : ZipSep2 z TI TO i1 i2 fp1 fp2) (D1 : Draws prog w A.in1 i1 fp1 n1 P1 St1) (D2 : Draws prog w A.in1 i2 fp2 n2 P2 St2) (low : z < Sl ∧ TI < Sl ∧ TO < Sl ∧ i1 < Sl ∧ i2 < Sl) (hSl : Sl < s.heap.objs.size)
    (st : ZSt z TI TO i1 i2 Sl St1 St2 i s.heap) (hlt1 : i < n1) (hlt2 : i < n2)
    (hQ : ∀ x1 x2 h' tk, P1 i x1 → P2 i x2 → ZSt z TI TO i1 i2 Sl St1 St2 (i + 1) h' → IsTupOf2 h' s.heap.objs.size x1 x2 → h'.objs.size = s.heap.objs.size + 1 →
      (∀ c o, c ≠ z → c ≠ TO → c ≠ i1 → c ≠ i2 → s.heap.get? c = some o → h'.get? c = some o) → Q (some (.ref s.heap.objs.size)) { s with heap := h', toks := tk }) :
    wpAny (model prog w) A (pyNext (.ref z)) Q E s := by
  obtain ⟨hTI, st1, st2, ⟨hz, a1, a2, hTO⟩ | ⟨T, f, oT, hz, hT, hST⟩⟩ := st
  · refine wpAny_pyNext_zipD2_item S D1 D2 hz hTI hTO st1 st2 hlt1 hlt2 fun x1 x2 h' tk y1 y2 b1 b2 d1 d2 b5 b6 hk => ?_
    exact hQ x1 x2 h' tk y1 y2 ⟨hk _ _ S.TIz S.TITO S.TIi1 S.TIi2 hTI, d1, d2, .inr ⟨_, false, _, b1, b5, hSl⟩⟩ b5 b6 hk
  · refine pyNext_zipH_item S D1 D2 hz hT hTI st1 st2 hlt1 hlt2 fun x1 x2 h' tk y1 y2 b1 d1 d2 b5 b6 hk => ?_
    have nz : T ≠ z := fun e => absurd (Nat.lt_trans hST (e ▸ low.1)) (Nat.lt_irrefl _)
    have n1' : T ≠ i1 := fun e => absurd (Nat.lt_trans hST (e ▸ low.2.2.2.1)) (Nat.lt_irrefl _)
    have n2' : T ≠ i2 := fun e => absurd (Nat.lt_trans hST (e ▸ low.2.2.2.2)) (Nat.lt_irrefl _)
    exact hQ x1 x2 h' tk y1 y2 ⟨hk _ _ S.TIz S.TIi1 S.TIi2 hTI, d1, d2, .inr ⟨T, true, oT, b1, hk _ _ nz n1' n2' hT, hST⟩⟩ b5 b6 fun c o c1 _ c2 c3 e => hk c o c1 c2 c3 e
theorem zst_end {Sl : Addr} {Q : Option Value → Shared → Prop} (S : ZipSep2 z TI TO i1 i2 fp1 fp2) (D1 : Draws prog w A.in1 i1 fp1 n1 P1 St1) (D2 : Draws prog w A.in1 i2 fp2 n2 P2 St2)
    (st : ZSt z TI TO i1 i2 Sl St1 St2 i s.heap) (hle1 : i ≤ n1) (hle2 : i ≤ n2) (hend : i = n1 ∨ i = n2)
    (hQ : ∀ h' tk, (∀ c o, c ≠ z → c ≠ TO → c ≠ i1 → c ≠ i2 → s.heap.get? c = some o → h'.get? c = some o) → Q none { s with heap := h', toks := tk }) : wpAny (model prog w) A (pyNext (.ref z)) Q E s := by
  obtain ⟨hTI, st1, st2, ⟨hz, a1, a2, hTO⟩ | ⟨T, f, oT, hz, hT, hST⟩⟩ := st
  · exact wpAny_pyNext_zipD2_end S D1 D2 hz hTI hTO st1 st2 hle1 hle2 hend hQ
  · exact pyNext_zipH_end S D1 D2 hz hT hTI st1 st2 hle1 hle2 hend fun h' tk hk => hQ h' tk fun c o c1 _ c2 c3 e => hk c o c1 c2 c3 e
end
structure ZipG (P1 P2 : Nat → Value → Prop) (lo : Addr) (h : Heap) (as : List Addr) : Prop where
  rise : as.Pairwise (· < ·)
  above : ∀ a ∈ as, lo < a
  pairs : ∀ (j : Nat) (a : Addr), as[j]? = some a → ∃ x1 x2, P1 j x1 ∧ P2 j x2 ∧ IsTupOf2 h a x1 x2
section
variable {prog : Program} {w : World} {A : Around} {s : Shared} {R : Result → Shared → Prop} {z TI TO i1 i2 : Addr} {fp1 fp2 : List Addr} {n1 n2 : Nat} {P1 P2 : Nat → Value → Prop} {St1 St2 : Nat → Heap → Prop}
theorem ZipG.there {lo : Addr} {h : Heap} {as : List Addr} (g : ZipG P1 P2 lo h as) {a : Addr} (ha : a ∈ as) : a < h.objs.size := by
  obtain ⟨j, hj⟩ := List.mem_iff_getElem?.mp ha
  obtain ⟨_, _, _, _, e⟩ := g.pairs j a hj
  exact Heap.lt_size e
theorem zip_loop {S : Addr} (Sp : ZipSep2 z TI TO i1 i2 fp1 fp2) (D1 : Draws prog w A.in1.in1 i1 fp1 n1 P1 St1) (D2 : Draws prog w A.in1.in1 i2 fp2 n2 P2 St2) (low : z < S ∧ TI < S ∧ TO < S ∧ i1 < S ∧ i2 < S) (lf1 : ∀ b ∈ fp1, b < S) (lf2 : ∀ b ∈ fp2, b < S) (hn : min n1 n2 ≤ sizeLine) (res : Value) {h₁ : Heap}
    (hR : ∀ h' tk acc c as, (∀ b o, b ≠ S → b ≠ z → b ≠ TO → b ≠ i1 → b ≠ i2 → h₁.get? b = some o → h'.get? b = some o) → h'.get? S = some { cls := .type "list", dict := none, data := .seq acc c, slots := #[] } → as.length = min n1 n2 → ZipG P1 P2 S h' as →
      acc.toList = as.map Value.ref → R (.ok (.ret res)) { s with heap := h', toks := tk }) :
    ∀ (k i : Nat) (h : Heap) (tk c : Nat) (acc : Array Value) (as : List Addr), min n1 n2 - i = k → i ≤ min n1 n2 → ZSt z TI TO i1 i2 S St1 St2 i h → (∀ b o, b ≠ S → b ≠ z → b ≠ TO → b ≠ i1 → b ≠ i2 → h₁.get? b = some o → h.get? b = some o) →
      h.get? S = some { cls := .type "list", dict := none, data := .seq acc c, slots := #[] } → acc.toList = as.map Value.ref → as.length = i → ZipG P1 P2 S h as →
      codeAny (model prog w) A (.builtin "list.extend.loop" ⟨[.ref S, .ref z, res], []⟩) R { s with heap := h, toks := tk } := by
  have nS : ∀ b, b ≠ z → b ≠ TO → b ≠ i1 → b ≠ i2 → True := fun _ _ _ _ _ => trivial
  have Sz : S ≠ z := Nat.ne_of_gt low.1
  have STO : S ≠ TO := Nat.ne_of_gt low.2.2.1
  have S1 : S ≠ i1 := Nat.ne_of_gt low.2.2.2.1
  have S2 : S ≠ i2 := Nat.ne_of_gt low.2.2.2.2
  intro k
  induction k with
  | zero =>
    intro i h tk c acc as hk hi hst hkeep hS hacc hal hG
    have hin : i = min n1 n2 := by omega
    refine codeAny_builtin PySem.F.entry_extend_loop ?_
    rw [Around.under_plainId PySem.F.plain_extend_loop _]
    show wpAny _ A.in1 (pyNext (.ref z) >>= _) _ _ _
    refine wpAny_bind (zst_end (s := { s with heap := h, toks := tk }) (A := A.in1) Sp D1 D2 hst (by omega) (by omega) (by omega) fun h' tk' he => ?_)
    refine wpAny_pure (hR h' tk' acc c as (fun b o h0 h1 h2 h3 h4 e => he b o h1 h2 h3 h4 (hkeep b o h0 h1 h2 h3 h4 e)) (he S _ Sz STO S1 S2 hS) (by omega) ⟨hG.rise, hG.above, fun j a hj => ?_⟩ hacc)
    obtain ⟨x1, x2, p1, p2, e3⟩ := hG.pairs j a hj
    have ha := hG.above a (List.mem_of_getElem? hj)
    exact ⟨x1, x2, p1, p2, he a _ (Nat.ne_of_gt (Nat.lt_trans low.1 ha)) (Nat.ne_of_gt (Nat.lt_trans low.2.2.1 ha)) (Nat.ne_of_gt (Nat.lt_trans low.2.2.2.1 ha)) (Nat.ne_of_gt (Nat.lt_trans low.2.2.2.2 ha)) e3⟩
  | succ k ih =>
    intro i h tk c acc as hk hi hst hkeep hS hacc hal hG
    have hsz : acc.size = i := by rw [← Array.length_toList, hacc, List.length_map, hal]
    refine codeAny_builtin PySem.F.entry_extend_loop ?_
    rw [Around.under_plainId PySem.F.plain_extend_loop _]
    show wpAny _ A.in1 (pyNext (.ref z) >>= _) _ _ _
    refine wpAny_bind (zst_item (s := { s with heap := h, toks := tk }) (A := A.in1) Sp D1 D2 low (Heap.lt_size hS) hst (by omega) (by omega) fun x1 x2 h' tk' y1 y2 hst' ht hz hkp => ?_)
    dsimp only at ht hz hkp ⊢
    have hS' := hkp S _ Sz STO S1 S2 hS
    have up : ∀ b o, b ≠ S → h'.get? b = some o → (h'.update S (Obj.mapSeq (·.push (Value.ref h.objs.size)))).get? b = some o := fun b o hb e => (Heap.get?_update_other _ _ (Ne.symm hb)).trans e
    have hSl : S < h.objs.size := Heap.lt_size hS
    have zst2 : ZSt z TI TO i1 i2 S St1 St2 (i + 1) (h'.update S (Obj.mapSeq (·.push (Value.ref h.objs.size)))) := by
      obtain ⟨a1, a2, a3, a4⟩ := hst'
      refine ⟨up _ _ (Nat.ne_of_lt low.2.1) a1, D1.frame _ _ _ a2 fun b hb o e => up b o (Nat.ne_of_lt (lf1 b hb)) e, D2.frame _ _ _ a3 fun b hb o e => up b o (Nat.ne_of_lt (lf2 b hb)) e, ?_⟩
      rcases a4 with ⟨q1, q2, q3, q4⟩ | ⟨T, f, oT, q1, q2, q3⟩
      · exact .inl ⟨up _ _ (Ne.symm Sz) q1, q2, q3, up _ _ (Ne.symm STO) q4⟩
      · exact .inr ⟨T, f, oT, up _ _ (Ne.symm Sz) q1, up _ _ (Nat.ne_of_gt q3) q2, q3⟩
    show wpAny _ A.in1 (updateSeq S (·.push (Value.ref h.objs.size)) >>= _) _ _ _
    refine wpAny_bind ?_
    refine wpAny_updateSeq hS' rfl (wpAny_pure ⟨plainId_quiet PySem.F.plain_extend_loop _, ih (i + 1) _ tk' _ (acc.push (Value.ref h.objs.size)) (as ++ [h.objs.size]) (by omega) (by omega) zst2
      (fun b o h0 h1 h2 h3 h4 e => up b o h0 (hkp b o h1 h2 h3 h4 (hkeep b o h0 h1 h2 h3 h4 e))) (Heap.get?_update_self _ hS' rfl) (by rw [Array.toList_push, hacc, List.map_append]; rfl) (by rw [List.length_append, hal]; rfl) ⟨?_, ?_, ?_⟩⟩) (by rw [hsz]; omega) (by show (acc.push (Value.ref h.objs.size)).size ≤ sizeLine + 1; rw [Array.size_push, hsz]; omega)
    · refine List.pairwise_append.mpr ⟨hG.rise, List.pairwise_singleton _ _, fun a ha b hb => ?_⟩
      rw [List.mem_singleton.mp hb]
      exact hG.there ha
    · intro a ha
      rcases List.mem_append.mp ha with ha | ha
      · exact hG.above a ha
      · rw [List.mem_singleton.mp ha]; exact hSl
    · intro j b hj
      rcases Nat.lt_trichotomy j as.length with h1 | h1 | h1
      · rw [List.getElem?_append_left h1] at hj
        obtain ⟨w1, w2, p1, p2, e3⟩ := hG.pairs j b hj
        have ha := hG.above b (List.mem_of_getElem? hj)
        exact ⟨w1, w2, p1, p2, up b _ (Nat.ne_of_gt ha) (hkp b _ (Nat.ne_of_gt (Nat.lt_trans low.1 ha)) (Nat.ne_of_gt (Nat.lt_trans low.2.2.1 ha)) (Nat.ne_of_gt (Nat.lt_trans low.2.2.2.1 ha)) (Nat.ne_of_gt (Nat.lt_trans low.2.2.2.2 ha)) e3)⟩
      · subst h1
        have hb : h.objs.size = b := by simpa using hj
        subst hb
        exact ⟨x1, x2, by rw [hal]; exact y1, by rw [hal]; exact y2, up _ _ (Nat.ne_of_gt hSl) ht⟩
      · have hnone : (as ++ [h.objs.size])[j]? = none := List.getElem?_eq_none (by rw [List.length_append, List.length_singleton]; omega)
        rw [hnone] at hj; cases hj
end
end FYR

set_option Elab.async false
set_option linter.all false
set_option maxRecDepth 100000
set_option maxHeartbeats 4000000
/-! list(zip(x, y)) of two texts; x[i:j:k] -/
namespace FYR
open PySem PySem.Spec PyProof.Rows L2
theorem nolen_zip : typeLookup (.type "zip") "__len__" = pure none := by rw [typeLookup_type, builtinLookup_eq_fast]; kernel_rfl
theorem nohint_zip : typeLookup (.type "zip") "__length_hint__" = pure none := by rw [typeLookup_type, builtinLookup_eq_fast]; kernel_rfl
section
variable {prog : Program} {w : World} {A : Around} {E : Value → Shared → Prop} {s : Shared} {z TI TO i1 i2 : Addr} {fp1 fp2 : List Addr} {n1 n2 : Nat} {P1 P2 : Nat → Value → Prop} {St1 St2 : Nat → Heap → Prop}
/-- a fresh zip -/
def ZNew (z TI TO i1 i2 : Addr) (St1 St2 : Nat → Heap → Prop) (h : Heap) : Prop :=
  IsTupOf2 h TI (.ref i1) (.ref i2) ∧ St1 0 h ∧ St2 0 h ∧ IsZip h z TI TO .none ∧ ∃ a1 a2, IsTupOf2 h TO a1 a2
theorem zl_extend {R : Result → Shared → Prop} (Sp : ZipSep2 z TI TO i1 i2 fp1 fp2) (D1 : Draws prog w A.in1.in1 i1 fp1 n1 P1 St1) (D2 : Draws prog w A.in1.in1 i2 fp2 n2 P2 St2) (hv : ZNew z TI TO i1 i2 St1 St2 s.heap) (S : Addr)
    (low : z < S ∧ TI < S ∧ TO < S ∧ i1 < S ∧ i2 < S) (lf1 : ∀ b ∈ fp1, b < S) (lf2 : ∀ b ∈ fp2, b < S) (res : Value) (c₀ : Nat) (hS : s.heap.get? S = some { cls := .type "list", data := .seq #[] c₀ })
    (hR : ∀ h' tk acc c as, (∀ b o, b ≠ S → b ≠ z → b ≠ TO → b ≠ i1 → b ≠ i2 → s.heap.get? b = some o → h'.get? b = some o) → h'.get? S = some { cls := .type "list", dict := none, data := .seq acc c, slots := #[] } → as.length = min n1 n2 → ZipG P1 P2 S h' as →
      acc.toList = as.map Value.ref → R (.ok (.ret res)) { s with heap := h', toks := tk }) (hn : min n1 n2 ≤ sizeLine) :
    wpAny (model prog w) A.in1 (Builtin.List.listExtendWith (.ref S) (.ref z) res)
      (fun fin s' => match fin with | .done f => R (.ok f) s' | .again c' => c'.quiet = true ∧ codeAny (model prog w) A c' R s') (fun e s' => R (.error e) s') s := by
  have hTy : s.TypeIs (.ref z) "zip" := ⟨_, hv.2.2.2.1, rfl⟩
  have key : ∀ (h : Heap) (c₁ tk : Nat), (∀ b o, b ≠ S → s.heap.get? b = some o → h.get? b = some o) →
      h.get? S = some { cls := .type "list", data := .seq #[] c₁ } → codeAny (model prog w) A (.builtin "list.extend.loop" ⟨[.ref S, .ref z, res], []⟩) R { s with heap := h, toks := tk } := by
    intro h c₁ tk hk hS₁
    obtain ⟨q1, q2, q3, q4, a1, a2, q5⟩ := hv
    refine zip_loop (s := s) (h₁ := s.heap) Sp D1 D2 low lf1 lf2 hn res hR (min n1 n2) 0 h tk c₁ #[] [] (Nat.sub_zero _) (Nat.zero_le _)
      ⟨hk _ _ (Nat.ne_of_lt low.2.1) q1, D1.frame _ _ _ q2 fun b hb o e => hk b o (Nat.ne_of_lt (lf1 b hb)) e, D2.frame _ _ _ q3 fun b hb o e => hk b o (Nat.ne_of_lt (lf2 b hb)) e, .inl ⟨hk _ _ (Nat.ne_of_lt low.1) q4, a1, a2, hk _ _ (Nat.ne_of_lt low.2.2.1) q5⟩⟩
      (fun b o h0 _ _ _ _ e => hk b o h0 e) hS₁ rfl rfl ⟨List.Pairwise.nil, (fun _ ha => nomatch ha), (fun j a hj => by simp at hj)⟩
  unfold Builtin.List.listExtendWith
  refine wpAny_bind (wpAny_typeOf (T := "zip") hTy ?_)
  have h1 : Builtin.List.listSameRef (.ref S) (.ref z) = false := by simp [Builtin.List.listSameRef, Nat.ne_of_gt low.1]
  have h2 : (Value.type "zip" == Value.type "list") = false := by decide
  have h3 : (Value.type "zip" == Value.type "tuple") = false := by decide
  simp only [h1, h2, h3, Bool.or_false, Bool.false_eq_true, if_false]
  refine wpAny_bind (wpAny_pyIter_zip hv.2.2.2.1 ?_)
  refine wpAny_bind (wpAny_holding ?_)
  unfold Builtin.List.listLengthHint
  refine wpAny_bind (wpAny_specialOf hTy nolen_zip ?_)
  show wpAny _ A.in1 (specialOf (Value.ref z) (Str.ofString "__length_hint__") >>= _) _ _ _
  refine wpAny_bind (wpAny_specialOf hTy nohint_zip ?_)
  refine wpAny_pure ?_
  refine wpAny_ite_split (fun _ => ?_) (fun _ => wpAny_pure ⟨plainId_quiet PySem.F.plain_extend_loop _, key _ c₀ _ (fun b o _ e => e) hS⟩)
  refine wpAny_bind (wpAny_rule ?_)
  refine wpAny_bind ?_
  show wpAny _ _ (updateSeq S (·.push .none) >>= fun _ => updateSeq S (·.pop)) _ _ _
  refine wpAny_bind (wpAny_updateSeq hS rfl ?_)
  have hS₂ := Heap.get?_update_self (Obj.mapSeq (·.push Value.none)) hS rfl
  refine wpAny_updateSeq (hz := by seq_fits) hS₂ rfl ?_
  have hS₃ := Heap.get?_update_self (Obj.mapSeq (·.pop)) hS₂ rfl
  refine wpAny_pure ⟨plainId_quiet PySem.F.plain_extend_loop _, key _ _ _ (fun b o hb e => ?_) hS₃⟩
  exact (Heap.get?_update_other _ _ (Ne.symm hb)).trans ((Heap.get?_update_other _ _ (Ne.symm hb)).trans e)
theorem ZNew.keep {h h' : Heap} (D1 : Draws prog w A i1 fp1 n1 P1 St1) (D2 : Draws prog w A i2 fp2 n2 P2 St2) (hv : ZNew z TI TO i1 i2 St1 St2 h) (k : ∀ b o, (b = z ∨ b = TI ∨ b = TO ∨ b ∈ fp1 ∨ b ∈ fp2) → h.get? b = some o → h'.get? b = some o) : ZNew z TI TO i1 i2 St1 St2 h' := by
  obtain ⟨q1, q2, q3, q4, a1, a2, q5⟩ := hv
  exact ⟨k _ _ (by simp) q1, D1.frame _ _ _ q2 fun b hb o e => k b o (by simp [hb]) e, D2.frame _ _ _ q3 fun b hb o e => k b o (by simp [hb]) e, k _ _ (by simp) q4, a1, a2, k _ _ (by simp) q5⟩
theorem zl_init {R : Result → Shared → Prop} (Sp : ZipSep2 z TI TO i1 i2 fp1 fp2) (D1 : Draws prog w A.in1.in1 i1 fp1 n1 P1 St1) (D2 : Draws prog w A.in1.in1 i2 fp2 n2 P2 St2) (hv : ZNew z TI TO i1 i2 St1 St2 s.heap) (S : Addr)
    (low : z < S ∧ TI < S ∧ TO < S ∧ i1 < S ∧ i2 < S) (lf1 : ∀ b ∈ fp1, b < S) (lf2 : ∀ b ∈ fp2, b < S) (hS : s.heap.get? S = some { cls := .type "list", data := .seq #[] })
    (hR : ∀ h' tk acc c as, (∀ b o, b ≠ S → b ≠ z → b ≠ TO → b ≠ i1 → b ≠ i2 → s.heap.get? b = some o → h'.get? b = some o) → h'.get? S = some { cls := .type "list", dict := none, data := .seq acc c, slots := #[] } → as.length = min n1 n2 → ZipG P1 P2 S h' as →
      acc.toList = as.map Value.ref → R (.ok (.ret .none)) { s with heap := h', toks := tk }) (hn : min n1 n2 ≤ sizeLine) :
    wpAny (model prog w) A.in1 (Builtin.«list.__init__» ⟨[.ref S, .ref z], []⟩)
      (fun fin s' => match fin with | .done f => R (.ok f) s' | .again c' => c'.quiet = true ∧ codeAny (model prog w) A c' R s') (fun e s' => R (.error e) s') s := by
  show wpAny _ _ (do let old ← Builtin.List.listItems (.ref S); Builtin.List.listUpdate (.ref S) (fun _ => #[]); letGo old.toList.reverse; Builtin.List.listExtendWith (.ref S) (.ref z) .none) _ _ s
  refine wpAny_bind ?_
  unfold Builtin.List.listItems
  refine wpAny_bind (wpAny_seqItems hS rfl (wpAny_pure ?_))
  show wpAny _ _ (updateSeq S (fun _ => #[]) >>= fun _ => letGo (#[] : Array Value).toList.reverse >>= fun _ => Builtin.List.listExtendWith (.ref S) (.ref z) .none) _ _ s
  refine wpAny_bind (wpAny_updateSeq hS rfl ?_)
  have hS₂ := Heap.get?_update_self (Obj.mapSeq (fun _ => (#[] : Array Value))) hS rfl
  have oth : ∀ b o, b ≠ S → s.heap.get? b = some o → (s.heap.update S (Obj.mapSeq (fun _ => (#[] : Array Value)))).get? b = some o :=
    fun b o hb e => (Heap.get?_update_other _ _ (Ne.symm hb)).trans e
  refine wpAny_bind (wpAny_letGo ?_)
  refine zl_extend Sp D1 D2 (ZNew.keep D1 D2 hv fun b o hb e => oth b o ?_ e) S low lf1 lf2 .none _ hS₂ (fun h' tk acc c as hk hS' hl hG hacc => ?_) hn
  · rcases hb with q | q | q | q | q
    · rw [q]; exact Nat.ne_of_lt low.1
    · rw [q]; exact Nat.ne_of_lt low.2.1
    · rw [q]; exact Nat.ne_of_lt low.2.2.1
    · exact Nat.ne_of_lt (lf1 b q)
    · exact Nat.ne_of_lt (lf2 b q)
  · exact hR h' tk acc c as (fun b o h0 h1 h2 h3 h4 e => hk b o h0 h1 h2 h3 h4 (oth b o h0 e)) hS' hl hG hacc
theorem zl_call {Q : Value → Shared → Prop} (Sp : ZipSep2 z TI TO i1 i2 fp1 fp2) (D1 : Draws prog w A.in1.in1.in1 i1 fp1 n1 P1 St1) (D2 : Draws prog w A.in1.in1.in1 i2 fp2 n2 P2 St2) (hv : ZNew z TI TO i1 i2 St1 St2 s.heap)
    (low : z < s.heap.objs.size ∧ TI < s.heap.objs.size ∧ TO < s.heap.objs.size ∧ i1 < s.heap.objs.size ∧ i2 < s.heap.objs.size) (lf1 : ∀ b ∈ fp1, b < s.heap.objs.size) (lf2 : ∀ b ∈ fp2, b < s.heap.objs.size) (hn : min n1 n2 ≤ sizeLine)
    (hQ : ∀ h' tk acc c as, (∀ b o, b ≠ z → b ≠ TO → b ≠ i1 → b ≠ i2 → s.heap.get? b = some o → h'.get? b = some o) → h'.get? s.heap.objs.size = some { cls := .type "list", dict := none, data := .seq acc c, slots := #[] } → as.length = min n1 n2 → ZipG P1 P2 s.heap.objs.size h' as →
      acc.toList = as.map Value.ref → Q (.ref s.heap.objs.size) { s with heap := h', toks := tk }) :
    wpAny (model prog w) A (call (.type "list") [.ref z]) Q E s := by
  refine callType_codes (Q₁ := fun obj s₁ => obj = .ref s.heap.objs.size ∧ s₁ = { s with heap := s.heap.push { cls := .type "list", data := .seq #[] } }) PySem.F.called_list (PySem.F.typeCall_list_1 _) PySem.F.entry_list_init
    (code_list_new _ ⟨rfl, rfl⟩) fun obj s₁ h₁ => ?_
  obtain ⟨rfl, rfl⟩ := h₁
  have hS : (s.heap.push { cls := .type "list", data := .seq #[] }).get? s.heap.objs.size = some { cls := .type "list", data := .seq #[] } := Heap.get?_push_size _ rfl
  refine ⟨⟨_, hS, rfl⟩, PySem.F.args_list_init_2 _ _, zl_init (A := A.in1) Sp D1 D2 (ZNew.keep D1 D2 hv fun b o _ e => Heap.get?_push_of_some _ e) _ low lf1 lf2 hS (fun h' tk acc c as hk hS' hl hG hacc => ?_) hn⟩
  exact ⟨rfl, hQ h' tk acc c as (fun b o h1 h2 h3 h4 e => hk b o (Nat.ne_of_lt (Heap.lt_size e)) h1 h2 h3 h4 (Heap.get?_push_of_some _ e)) hS' hl hG hacc⟩
end

/-! ### x[i:j:k] of a text -/
def stepS (z : Str) (l u : Option Int) (k : Int) : Str :=
  if (k == 1 && (Builtin.Str.strSliceIndices l u k z.length).length == z.length) = true then z else ⟨((Builtin.Str.strSliceIndices l u k z.length).filterMap (z.cps[·]?)).toArray⟩
theorem stepS_length (z : Str) (l u : Option Int) (k : Int) (hk : k ≠ 0) : (stepS z l u k).length ≤ z.length := by
  unfold stepS
  split
  · exact Nat.le_refl _
  · show (List.filterMap _ (Builtin.Str.strSliceIndices l u k z.length)).toArray.size ≤ z.length
    rw [List.size_toArray]
    exact Nat.le_trans (List.length_filterMap_le _ _) (sliceIndicesBy_le _ _ _ hk z.length)
section
variable {X : Cx} {e st : Expr} {lo hi : Option Expr} {te : TE} {tl th ts : TO} {p2 pos : Pos}
def tStepS (te : TE) (tl th ts : TO) : TE := fun σ H Q => te σ H fun x H1 => tl σ H1 fun l H2 => th σ H2 fun u H3 => ts σ H3 fun k H4 => ∃ (z : Str) (i : Int), x = .str z ∧ k = some i ∧ i ≠ 0 ∧ z.length ≤ sizeLine ∧ Q (.str (stepS z l u i)) H4
theorem pe_stepS (he : PE X e te) (hl : PO X lo tl) (hu : PO X hi th) (hst : PO X (some st) ts) : PE X (.Subscript e (.Slice lo hi (some st) p2) pos) (tStepS te tl th ts) := by
  refine ⟨fun pins s σ H Q I h => ?_⟩
  refine Subscript_ (thn (he.run pins s σ H _ I h) fun v s1 ⟨x, H1, I1, r1, q1⟩ => ?_)
  refine wpAny_Slice (thn (hl.run pins s1 σ H1 _ I1 q1) fun vl s2 ⟨l, H2, I2, pl, q2⟩ => thn (hu.run pins s2 σ H2 _ I2 q2) fun vu s3 ⟨u, H3, I3, pu, q3⟩ => thn (hst.run pins s3 σ H3 _ I3 q3) fun vk s4 ⟨k, H4, I4, pk, q4⟩ => ?_)
  have I5 : Inv X pins σ H4 { s4 with heap := s4.heap.push { cls := .type "slice", data := .fields #[vl, vu, vk] } } := I4.kept (t' := s4.toks) fun b ob q => Heap.get?_push_of_some _ q
  obtain ⟨z, i, rfl, rfl, hi0, hz, q⟩ := q4
  obtain ⟨t, rfl⟩ := r1
  obtain ⟨l', rfl, rfl⟩ := IsPart.raw pl
  obtain ⟨u', rfl, rfl⟩ := IsPart.raw pu
  obtain ⟨k', rfl, ek⟩ := IsPart.raw pk
  have hlen := stepS_length z (l'.map (·.1)) (u'.map (·.1)) i hi0
  have ek2 : ((k'.map (·.1)).getD 1) = i := by rw [ek]; rfl
  show wpAny (model X.prog X.w) X.A (subscriptTail e (.Slice lo hi (some st) p2) (.str z t) (.ref s4.heap.objs.size)) (EP X pins σ Q) X.xe { s4 with heap := s4.heap.push { cls := .type "slice", data := .fields #[partValue l', partValue u', partValue k'] } }
  refine tail_any (ops := [.str z t, .ref s4.heap.objs.size]) (typeIs_str _ _ _) F.slot_str_getitem.lookup ?_ (by with_unfolding_all rfl)
  refine wpAny_getItem_str_slice (l := l') (u := u') (st := k') ⟨_, Heap.get?_push_size _ rfl, rfl, rfl⟩ (by rw [ek2]; simpa using hi0) ?_
  unfold stepS at q hlen
  show Made.post (if ((k'.map (·.1)).getD 1 == 1 && (Builtin.Str.strSliceIndices (l'.map (·.1)) (u'.map (·.1)) ((k'.map (·.1)).getD 1) z.length).length == z.length) = true then Made.val (.str z t)
    else Made.str ⟨((Builtin.Str.strSliceIndices (l'.map (·.1)) (u'.map (·.1)) ((k'.map (·.1)).getD 1) z.length).filterMap (z.cps[·]?)).toArray⟩) (EP X pins σ Q) _
  rw [ek2]
  by_cases c : (i == 1 && (Builtin.Str.strSliceIndices (l'.map (·.1)) (u'.map (·.1)) i z.length).length == z.length) = true
  · rw [if_pos c] at q ⊢
    exact ⟨.str z, H4, I5, ⟨t, rfl⟩, q⟩
  · rw [if_neg c] at q hlen ⊢
    exact ⟨Nat.le_trans hlen hz, .str _, H4, I5.tok _, ⟨_, rfl⟩, q⟩
end
end FYR

set_option Elab.async false
set_option linter.all false
set_option maxRecDepth 100000
set_option maxHeartbeats 4000000
namespace FYR
open PySem PySem.Spec PyProof.Rows L2
/-- pairs tracked at their addresses -/
def putP : Hp → List Addr → List (V × V) → Hp
  | H, a :: as, p :: ps => putP (upd H a (.tup [p.1, p.2])) as ps
  | H, _, _ => H
theorem putP_off {b : Addr} : ∀ (as : List Addr) (ps : List (V × V)) (H : Hp), b ∉ as → putP H as ps b = H b
  | [], _, _, _ => rfl
  | _ :: _, [], _, _ => rfl
  | a :: as, p :: ps, H, h => by
    show putP (upd H a (.tup [p.1, p.2])) as ps b = H b
    rw [putP_off as ps _ (fun z => h (List.mem_cons_of_mem _ z)), upd_ne (fun z => h (by rw [z]; exact List.mem_cons_self))]
theorem putP_at : ∀ (as : List Addr) (ps : List (V × V)) (H : Hp), as.length = ps.length → as.Nodup → Paired (fun (t : Addr) (p : V × V) => putP H as ps t = some (.tup [p.1, p.2])) as ps
  | [], [], _, _, _ => .nil
  | [], _ :: _, _, h, _ => by cases h
  | _ :: _, [], _, h, _ => by cases h
  | a :: as, p :: ps, H, h, hn => by
    have hn' := List.nodup_cons.mp hn
    have ih := putP_at as ps (upd H a (.tup [p.1, p.2])) (Nat.succ.inj h) hn'.2
    refine .cons ?_ ih
    show putP (upd H a (.tup [p.1, p.2])) as ps a = some (.tup [p.1, p.2])
    rw [putP_off as ps _ hn'.1, upd_same]
def sg (c : Nat) : V := .str ⟨#[c]⟩
/-- the pairs of two texts -/
def zipV (x y : Str) : List (V × V) := (x.cps.toList.zip y.cps.toList).map fun p => (sg p.1, sg p.2)
theorem zipV_len (x y : Str) : (zipV x y).length = min x.cps.size y.cps.size := by simp [zipV]
def tListZip (ta : TA) : TE := fun σ H Q => ta σ H fun vs H1 => ∃ x y : Str, vs = [.str x, .str y] ∧ x.length ≤ sizeLine ∧
  ∀ (H' : Hp) (p : Addr) (ts : List Addr), (∀ b o, H1 b = some o → H' b = some o) → H1 p = none → (∀ t ∈ ts, H1 t = none) → p ∉ ts → H' p = some (.lst (ts.map V.ref)) → Paired (fun (t : Addr) (q : V × V) => H' t = some (.tup [q.1, q.2])) ts (zipV x y) → Q (.ref p) H'
section
variable {X : Cx} {e e2 : Expr} {ta : TA} {p pz apos cpos pos : Pos}
theorem zips_laid {pins : List (Addr × Obj)} {σ : L2.St} {H : Hp} {s : Shared} {h' : Heap} {tk : Nat} {lo : Addr} {ps : List (V × V)} {acc : Array Value} {c : Nat} {as : List Addr} (I : Inv X pins σ H s) (hlo : s.heap.objs.size ≤ lo) (hz : ps.length ≤ sizeLine)
    (hk : ∀ b o, s.heap.get? b = some o → h'.get? b = some o) (hS : h'.get? lo = some { cls := .type "list", dict := none, data := .seq acc c, slots := #[] }) (hl : as.length = ps.length) (rise : as.Pairwise (· < ·)) (above : ∀ a ∈ as, lo < a)
    (prs : ∀ (j : Nat) (a : Addr) (q : V × V), as[j]? = some a → ps[j]? = some q → ∃ x1 x2, RelV q.1 x1 ∧ RelV q.2 x2 ∧ IsTupOf2 h' a x1 x2) (hacc : acc.toList = as.map Value.ref) :
    ∃ H' : Hp, (∀ b o, H b = some o → H' b = some o) ∧ H lo = none ∧ (∀ t ∈ as, H t = none) ∧ lo ∉ as ∧ H' lo = some (.lst (as.map V.ref)) ∧ Paired (fun (t : Addr) (q : V × V) => H' t = some (.tup [q.1, q.2])) as ps ∧ Inv X pins σ H' { s with heap := h', toks := tk } := by
  have hSn : lo ∉ as := fun z => Nat.lt_irrefl _ (above _ z)
  have nd : as.Nodup := List.Pairwise.imp (fun {a b} (h : a < b) => Nat.ne_of_lt h) rise
  have new : ∀ t ∈ as, H t = none := fun t ht => I.hok.fresh (Nat.le_trans hlo (Nat.le_of_lt (above t ht)))
  have newS : H lo = none := I.hok.fresh hlo
  have atP := putP_at as ps (upd H lo (.lst (as.map V.ref))) hl nd
  have off : ∀ b, b ∉ as → b ≠ lo → putP (upd H lo (.lst (as.map V.ref))) as ps b = H b := fun b h1 h2 => by rw [putP_off as ps _ h1, upd_ne h2]
  have low : ∀ b o, s.heap.get? b = some o → b ∉ as ∧ b ≠ lo := fun b o e => ⟨fun z => absurd (Heap.lt_size e) (Nat.not_lt.mpr (Nat.le_trans hlo (Nat.le_of_lt (above b z)))), Nat.ne_of_lt (Nat.lt_of_lt_of_le (Heap.lt_size e) hlo)⟩
  have kp : ∀ b u, H b = some u → (putP (upd H lo (.lst (as.map V.ref))) as ps) b = some u := fun b u e => by
    rw [off b (fun z => by rw [new b z] at e; cases e) (fun z => by rw [z, newS] at e; cases e)]
    exact e
  have eS : putP (upd H lo (.lst (as.map V.ref))) as ps lo = some (.lst (as.map V.ref)) := by rw [putP_off as ps _ hSn, upd_same]
  refine ⟨putP (upd H lo (.lst (as.map V.ref))) as ps, kp, newS, new, hSn, eS, atP, ?_⟩
  refine I.call' (ch := []) rfl ⟨fun b o q _ _ _ => hk b o q, fun b o q _ _ _ => ⟨o.slots, hk b o q⟩, fun b o q n _ => ?_, fun b o q _ => ⟨o, hk b o q⟩, fun b xs q => kp b _ q, fun b o u q => kp b _ q, fun b ps q => ⟨#[], by rw [kp b _ q]; simp⟩⟩ (fun b u q => ?_) I.bare fun b z => by simp at z
  · obtain ⟨z1, z2⟩ := low b o q
    rw [off b z1 z2]
    exact n
  · by_cases hb : b ∈ as
    · obtain ⟨j, pk, e1, e2, e3⟩ := LiI.paired_ix atP hb
      rw [e3] at q
      cases q
      obtain ⟨x1, x2, r1, r2, f3⟩ := prs j b pk e1 e2
      exact ⟨by show 2 ≤ sizeLine; decide, [x1, x2], .cons r1 (.cons r2 .nil), ⟨_, f3, rfl, _, rfl⟩⟩
    · by_cases hb2 : b = lo
      · rw [hb2] at q ⊢
        rw [eS] at q
        cases q
        refine ⟨by rw [List.length_map]; omega, acc.toList, c, by rw [hacc]; exact LiI.vals_refs as, ?_⟩
        rw [Array.toArray_toList]
        exact hS
      · rw [off b hb hb2] at q
        exact (I.hok b u q).stay (fun d v _ y => hk d v y) (fun d y => kp d _ y) fun d xs y => kp d _ y
/-- list(zip(e, e2)) of two texts -/
theorem pe_listZip (hc : X.calm = true) (ha : PA X [e, e2] ta) (hg : Gl X "list") (hm : X.mg "list" = none) (hg2 : Gl X "zip") (hm2 : X.mg "zip" = none)
    (hs : starEach [.Call (.Name "zip" pz) [e, e2] [] cpos] X.env = (false, eval (.Call (.Name "zip" pz) [e, e2] [] cpos) X.env) :: starEach [] X.env := by rfl)
    (hs2 : starEach [e, e2] X.env = (false, eval e X.env) :: starEach [e2] X.env := by rfl) (hpl : (backTo cpos (starEach [e2] X.env)).any (·.1) = false := by rfl) :
    PE X (.Call (.Name "list" p) [.Call (.Name "zip" pz) [e, e2] [] cpos] [] pos) (tListZip ta) := by
  refine ⟨fun pins s σ H Q I hq => ?_⟩
  refine wpAny_Call_Name_kw (ld_blt I hg hm boot_list ?_)
  refine PyProof.Rows.callWith_type1 ?_ hs rfl
  rw [hs]
  show wpAny _ _ (spliced ((false, eval (.Call (.Name "zip" pz) [e, e2] [] cpos) X.env) :: backTo pos (starEach [] X.env))) _ _ s
  refine Calls.spliced_cons ?_
  refine Call_ (ld_blt I hg2 hm2 PyProof.Rows.boot_zip (PyProof.Rows.callWith_type1 (thn (ha.run cpos pins s σ H _ I hq) fun us s1 ⟨vs, H1, I1, r1, q1⟩ => ?_) hs2 hpl))
  obtain ⟨x, y, ex, hx, q1⟩ := q1
  subst ex
  cases r1 with
  | cons r rr =>
    cases rr with
    | cons r' rr =>
      cases rr
      obtain ⟨t, rfl⟩ := r
      obtain ⟨u, rfl⟩ := r'
      have hh : X.A.in1.in1.in1.handled = none := I1.ok.hd hc
      refine zip_begins2 (begins_text x t) (begins_text y u) trivial trivial fun h' hz hTI hTO h1 h2 hsz hk => ?_
      refine Calls.spliced_nil ?_
      have e1 : h'.IsStrIter s1.heap.objs.size (strIterType x) x t 0 := ⟨_, h1, rfl, rfl⟩
      have e2' : h'.IsStrIter (s1.heap.objs.size + 1) (strIterType y) y u 0 := ⟨_, h2, rfl, rfl⟩
      have hx' : min x.cps.size y.cps.size ≤ sizeLine := Nat.le_trans (Nat.min_le_left _ _) hx
      have low5 : s1.heap.objs.size + 4 < h'.objs.size ∧ s1.heap.objs.size + 2 < h'.objs.size ∧ s1.heap.objs.size + 3 < h'.objs.size ∧ s1.heap.objs.size < h'.objs.size ∧ s1.heap.objs.size + 1 < h'.objs.size := by
        rw [hsz]
        exact ⟨Nat.add_lt_add_left (by decide) _, Nat.add_lt_add_left (by decide) _, Nat.add_lt_add_left (by decide) _, Nat.lt_add_of_pos_right (by decide), Nat.add_lt_add_left (by decide) _⟩
      have lowA : ∀ b ∈ ([s1.heap.objs.size] : List Addr), b < h'.objs.size := fun b hb => by
        rw [List.mem_singleton.mp hb]
        exact low5.2.2.2.1
      have lowB : ∀ b ∈ ([s1.heap.objs.size + 1] : List Addr), b < h'.objs.size := fun b hb => by
        rw [List.mem_singleton.mp hb]
        exact low5.2.2.2.2
      refine zl_call (s := { s1 with heap := h' }) (A := X.A) (zip_sep2 (fp1 := []) (fp2 := []) (by simp) (by simp)) (Draws.text hh s1.heap.objs.size x t) (Draws.text hh (s1.heap.objs.size + 1) y u) ⟨hTI, e1, e2', hz, _, _, hTO⟩
        low5 lowA lowB hx'
        fun h'' tk acc c as hk2 hS hl hG hacc => ?_
      obtain ⟨H', k1, k2, k3, k4, k5, k6, J⟩ := zips_laid (tk := tk) (lo := h'.objs.size) (ps := zipV x y) I1 (by rw [hsz]; exact Nat.le_add_right _ _) (by rw [zipV_len]; exact hx') (fun b o e => hk2 b o
          (Nat.ne_of_lt (Nat.lt_of_lt_of_le (Heap.lt_size e) (Nat.le_add_right _ _))) (Nat.ne_of_lt (Nat.lt_of_lt_of_le (Heap.lt_size e) (Nat.le_add_right _ _))) (Nat.ne_of_lt (Heap.lt_size e)) (Nat.ne_of_lt (Nat.lt_of_lt_of_le (Heap.lt_size e) (Nat.le_add_right _ _))) (hk b o e)) hS (by rw [zipV_len]; exact hl) hG.rise hG.above
        (fun j a q ea eq => by
          obtain ⟨x1, x2, ⟨c1, t1, ec1, rfl⟩, ⟨c2, t2, ec2, rfl⟩, f3⟩ := hG.pairs j a ea
          have ez : (zipV x y)[j]? = some (sg c1, sg c2) := by
            simp [zipV, List.zip, List.getElem?_zipWith, ec1, ec2]
          rw [ez] at eq
          cases eq
          exact ⟨_, _, ⟨t1, rfl⟩, ⟨t2, rfl⟩, f3⟩) hacc
      exact ⟨.ref _, H', J, rfl, q1 H' _ as k1 k2 k3 k4 k5 k6⟩
end
end FYR

set_option Elab.async false
set_option linter.all false
set_option maxRecDepth 100000
set_option maxHeartbeats 4000000
/-! the rules with the written part named (for comprehensions' blocks) -/
namespace FYR
open PySem PySem.Spec PyProof.Rows L2
section
variable {X : Cx} (K : PySem.W.Frag) (hK : X.K = K)
include hK
theorem kIn : OpR X (compareOp .In) (rIn K false) := by subst hK; exact op_in_seq
theorem kNotIn : OpR X (compareOp .NotIn) (rIn K true) := by subst hK; exact op_notIn_seq
theorem kEqD (hu : X.A.units + 64 < cLine) : OpR X (compareOp .Eq) (rEqD K) := by subst hK; exact op_eqD hu
theorem kNeD (hu : X.A.units + 64 < cLine) : OpR X (compareOp .NotEq) (rNeD K) := by subst hK; exact op_neD hu
theorem kIxT : IxR X (rIxT K) := by subst hK; exact ix_tup
theorem kIxL : IxR X (rIxL K) := by subst hK; exact ix_list
theorem kSlT : SlR X (rSlT K) := by subst hK; exact sl_tup
theorem kSlL : SlR X (rSlL K) := by subst hK; exact sl_list
theorem kCatT : OpR X (binaryOp .Add) (rCatT K) := by subst hK; exact op_catT
theorem kIsi : CallR X (.builtin "isinstance") (rIsi K) := by subst hK; exact call_isi
def rLenK (K : PySem.W.Frag) : List V → Hp → VK → Prop := fun xs H Q => ∃ p ys, xs = [.ref p] ∧ (SqL K H p ys ∨ SqT K H p ys) ∧ Q (.int ys.length) H
theorem kLen : CallR X (.builtin "len") (rLenK K) := by subst hK; exact call_len_seq
theorem kAll (hc : X.calm = true) : CallR X (.builtin "all") (rAll K) := by subst hK; exact cr_all hc
theorem kSum (hc : X.calm = true) : CallR X (.builtin "sum") (rSum K) := by subst hK; exact cr_sum hc
theorem kExtT : MtM X "list.extend" (rExtendT K) := by subst hK; exact mt_extendT
theorem kTupG {es : List Expr} {k : Nat} {t : TGs} {n : Nat} {pos : Pos} (hc : X.calm = true) (h : PGs X es t)
    (hn : (assignEach es X.env).length = n := by rfl) (hst : (assignEach es X.env).findIdx? (·.1) = none := by rfl) : PG X (.Tuple es k pos) (gTup K n t) := by subst hK; exact pg_tup hc h hn hst
theorem kList {tg l : Expr} {tl : TE} (hl : PE X l tl) : PI X tg l (iList K tl) := by subst hK; exact pi_list hl
theorem kTup {tg l : Expr} {tl : TE} (hl : PE X l tl) : PI X tg l (iTup K tl) := by subst hK; exact pi_tup hl
def rJoin (K : PySem.W.Frag) : V → List V → Hp → VK → Prop := fun x xs H Q => ∃ a p, ∃ ys : List Str, x = .str a ∧ xs = [.ref p] ∧ (SqL K H p (ys.map V.str) ∨ SqT K H p (ys.map V.str)) ∧ (ys.map (·.length)).sum + ys.length * a.length ≤ 16777216 ∧ Q (.str (Txt.join a ys)) H
theorem kJoin {o e : Expr} {to te : TE} {apos pos : Pos} (ho : PE X o to) (he : PE X e te) (hs : starEach [e] X.env = [(false, eval e X.env)] := by rfl) (hbase : attributeBase o "join" X.env (eval o X.env) = eval o X.env := by rfl) (hline : (apos.endLine == pos.line) = true := by rfl) :
    PE X (.Call (.Attribute o "join" apos) [e] [] pos) (tM1 (rJoin K) to te) := by subst hK; exact pe_join ho he hs hbase hline
section
variable {o e : Expr} {es : List Expr} {to : TE} {t : TA} {name : Str} {apos cpos : Pos} {T id : String} {r : V → List V → Hp → VK → Prop}
theorem kBm0 (pa : PlainAttrs T) (slot : Slot T name id) (hty : typeOf (.builtin id) = pure (.type "method_descriptor")) (hm : MtR X id r) (ho : PE X o to)
    (hbase : attributeBase o name X.env (eval o X.env) = eval o X.env := by rfl) (hline : (apos.endLine == cpos.line) = true := by rfl) : PE X (.Call (.Attribute o name apos) [] [] cpos) (tBM0 K T r to) := by subst hK; exact pe_bm0 pa slot hty hm ho hbase hline
theorem kBm (pa : PlainAttrs T) (slot : Slot T name id) (hty : typeOf (.builtin id) = pure (.type "method_descriptor")) (hm : MtR X id r) (ho : PE X o to) (ha : PA X (e :: es) t)
    (hbase : attributeBase o name X.env (eval o X.env) = eval o X.env := by rfl)
    (hfew : ((backTo cpos (starEach (e :: es) X.env)).all (fun x => !x.1) && (backToKw cpos (keywordEach [] X.env)).all (fun x => x.1.isSome)
      && decide ((e :: es).length + ([] : List Keyword).length + (if ([] : List Keyword).isEmpty then 0 else 1) < 30)) = true := by rfl)
    (hline : (apos.endLine == cpos.line) = true := by rfl) (hs : starEach (e :: es) X.env = (false, eval e X.env) :: starEach es X.env := by rfl) (hplain : (backTo cpos (starEach es X.env)).any (·.1) = false := by rfl) :
    PE X (.Call (.Attribute o name apos) (e :: es) [] cpos) (tBM K T r to t) := by subst hK; exact pe_bm pa slot hty hm ho ha hbase hfew hline hs hplain
end
theorem kRepr {k : Nat} (hgd : X.A.guards = some []) (hr : Room k X.A) : CallR X (.builtin "repr") (rReprD K) := by subst hK; exact call_reprD hgd hr
end
/-! slots and classes as values in short -/
section
variable {X : Cx}
theorem pTy {T : String} {x : Str} {pos : Pos} (hg : Gl X x) (hm : X.mg x = none) (hv : bootBuiltins x = some (.type T)) (hn : x ≠ "__name__" := by decide) (hd : (x == ("__debug__" : Str)) = false := by decide) : PE X (.Name x pos) (tC (.ty T)) := pe_bltn hg hm hv rfl hn hd
end
end FYR

set_option Elab.async false
set_option linter.all false
set_option maxRecDepth 100000
set_option maxHeartbeats 4000000
/-! more rules with the written part named -/
namespace FYR
open PySem PySem.Spec PyProof.Rows L2
section
variable {X : Cx} (K : PySem.W.Frag) (hK : X.K = K)
include hK
theorem kFld {e : Expr} {ta : TE} {f : Str} {pos : Pos} (he : PE X e ta) (hb : attributeBase e f X.env (eval e X.env) = eval e X.env := by rfl) : PE X (.Attribute e f pos) (tFld K ta f) := by subst hK; exact pe_fld he hb
theorem kIsiT : CallR X (.builtin "isinstance") (rIsiT K) := by subst hK; exact call_isiT
theorem kEnum {e : Expr} {ta : L2.TA} {p pos tpos : Pos} {elts : List Expr} {kk : Nat} (hg : Gl X "enumerate") (hm : X.mg "enumerate" = none) (ha : PA X [e] ta) (hs : starEach [e] X.env = [(false, eval e X.env)] := by rfl) :
    PI X (.Tuple elts kk tpos) (.Call (.Name "enumerate" p) [e] [] pos) (iEnum K ta) := by subst hK; exact pi_enum hg hm ha hs
theorem kSetF {o value : Expr} {ta tv : TE} {f : Str} {pos pos' : Pos} (ha : PE X o ta) (hv : PE X value tv) (hs : swapsWith value (some (.Attribute o f pos')) pos.line X.env = pure false := by rfl) : PS X (.Assign [.Attribute o f pos'] value pos) (sFld K ta tv f) := by subst hK; exact ps_fld ha hv hs
end
end FYR

namespace FY
inductive W1 where
  | no | twice | half | change | count
  deriving DecidableEq
inductive Tm where
  | inn
  | one (w : W1) (t : Tm)
  | late (b : Bool) (t : Tm)
  | byy (a b c d : Bool) (t u : Tm)
  | keep (t u : Tm)
  | thn (t u : Tm)
def Tm.nodes : Tm → Nat
  | .inn => 1
  | .one _ t => t.nodes + 1
  | .late _ t => t.nodes + 1
  | .byy _ _ _ _ t u => t.nodes + u.nodes + 1
  | .keep t u => t.nodes + u.nodes + 1
  | .thn t u => t.nodes + u.nodes + 1
theorem Tm.nodes_pos (t : Tm) : 1 ≤ t.nodes := by cases t <;> simp [Tm.nodes]
def halfL : List Bool → List Bool
  | _ :: y :: r => y :: halfL r
  | _ => []
def chgL (l : Bool) : List Bool → List Bool
  | [] => []
  | x :: r => (x != l) :: chgL x r
def cntL (l : Bool) : List Bool → List Bool
  | [] => []
  | x :: r => (x != l) :: cntL (x != l) r
def dblL : List Bool → List Bool
  | [] => []
  | x :: r => x :: x :: dblL r
def byL (a b c d : Bool) : List Bool → List Bool → List Bool
  | x :: r, y :: s => (if x then (if y then d else c) else (if y then b else a)) :: byL a b c d r s
  | _, _ => []
def keepL : List Bool → List Bool → List Bool
  | x :: r, y :: s => if y then x :: keepL r s else keepL r s
  | _, _ => []
def lateL (b : Bool) (f : List Bool) : List Bool := (b :: f).take f.length
def oneL : W1 → List Bool → List Bool
  | .no, f => f.map (!·)
  | .twice, f => dblL f
  | .half, f => halfL f
  | .change, f => chgL false f
  | .count, f => cntL false f
def flow : Tm → List Bool → List Bool
  | .inn, s => s
  | .one w t, s => oneL w (flow t s)
  | .late b t, s => lateL b (flow t s)
  | .byy a b c d t u, s => byL a b c d (flow t s) (flow u s)
  | .keep t u, s => keepL (flow t s) (flow u s)
  | .thn t u, s => flow u (flow t s)
/-! lengths -/
theorem halfL_len : ∀ f : List Bool, (halfL f).length ≤ f.length
  | [] => by simp [halfL]
  | [_] => by simp [halfL]
  | _ :: y :: r => by have := halfL_len r; simp [halfL]; omega
theorem chgL_len : ∀ (f : List Bool) (l : Bool), (chgL l f).length = f.length
  | [], _ => rfl
  | x :: r, l => by simp [chgL, chgL_len r x]
theorem cntL_len : ∀ (f : List Bool) (l : Bool), (cntL l f).length = f.length
  | [], _ => rfl
  | x :: r, l => by simp [cntL, cntL_len r]
theorem dblL_len : ∀ f : List Bool, (dblL f).length = 2 * f.length
  | [] => rfl
  | x :: r => by simp [dblL, dblL_len r]; omega
theorem byL_len (a b c d : Bool) : ∀ f g : List Bool, (byL a b c d f g).length ≤ f.length
  | [], _ => by simp [byL]
  | _ :: _, [] => by simp [byL]
  | x :: r, y :: s => by have := byL_len a b c d r s; simp [byL]; omega
theorem keepL_len : ∀ f g : List Bool, (keepL f g).length ≤ f.length
  | [], _ => by simp [keepL]
  | _ :: _, [] => by simp [keepL]
  | x :: r, y :: s => by have := keepL_len r s; cases y <;> simp [keepL] <;> omega
theorem lateL_len (b : Bool) (f : List Bool) : (lateL b f).length = f.length := by simp [lateL]
theorem oneL_len (w : W1) (f : List Bool) : (oneL w f).length ≤ 2 * f.length := by
  cases w with
  | no => simp [oneL]; omega
  | twice => simp [oneL, dblL_len]
  | half => have := halfL_len f; simp [oneL]; omega
  | change => simp [oneL, chgL_len]; omega
  | count => simp [oneL, cntL_len]; omega
theorem flow_len : ∀ (t : Tm) (s : List Bool), (flow t s).length ≤ 2 ^ (t.nodes - 1) * s.length := by
  intro t
  induction t with
  | inn => intro s; simp [flow, Tm.nodes]
  | one w t ih =>
    intro s
    have h1 := oneL_len w (flow t s)
    have h2 := ih s
    have h3 := t.nodes_pos
    have e : 2 ^ (t.nodes + 1 - 1) = 2 * 2 ^ (t.nodes - 1) := by
      rw [show t.nodes + 1 - 1 = (t.nodes - 1) + 1 by omega, Nat.pow_succ]; omega
    simp only [flow, Tm.nodes, e, Nat.mul_assoc]
    omega
  | late b t ih =>
    intro s
    have h2 := ih s
    have h3 := t.nodes_pos
    have e : 2 ^ (t.nodes + 1 - 1) = 2 * 2 ^ (t.nodes - 1) := by
      rw [show t.nodes + 1 - 1 = (t.nodes - 1) + 1 by omega, Nat.pow_succ]; omega
    simp only [flow, Tm.nodes, lateL_len, e, Nat.mul_assoc]
    omega
  | byy a b c d t u ih1 ih2 =>
    intro s
    have h1 := byL_len a b c d (flow t s) (flow u s)
    have h2 := ih1 s
    have h3 := t.nodes_pos
    have e : 2 ^ (t.nodes - 1) ≤ 2 ^ (t.nodes + u.nodes + 1 - 1) := Nat.pow_le_pow_right (by decide) (by omega)
    have e2 := Nat.mul_le_mul_right s.length e
    simp only [flow, Tm.nodes]
    omega
  | keep t u ih1 ih2 =>
    intro s
    have h1 := keepL_len (flow t s) (flow u s)
    have h2 := ih1 s
    have e : 2 ^ (t.nodes - 1) ≤ 2 ^ (t.nodes + u.nodes + 1 - 1) := Nat.pow_le_pow_right (by decide) (by omega)
    have e2 := Nat.mul_le_mul_right s.length e
    simp only [flow, Tm.nodes]
    omega
  | thn t u ih1 ih2 =>
    intro s
    have h1 := ih1 s
    have h2 := ih2 (flow t s)
    have h3 := t.nodes_pos
    have h4 := u.nodes_pos
    have e : 2 ^ (u.nodes - 1) * 2 ^ (t.nodes - 1) ≤ 2 ^ (t.nodes + u.nodes + 1 - 1) := by
      rw [← Nat.pow_add]; exact Nat.pow_le_pow_right (by decide) (by omega)
    have e1 := Nat.mul_le_mul_left (2 ^ (u.nodes - 1)) h1
    have e2 := Nat.mul_le_mul_right s.length e
    rw [← Nat.mul_assoc] at e1
    simp only [flow, Tm.nodes]
    omega
/-! beginnings -/
theorem halfL_pre : ∀ f g : List Bool, halfL f <+: halfL (f ++ g)
  | [], g => by simp [halfL]
  | [x], g => by simp [halfL]
  | x :: y :: r, g => by
    have := halfL_pre r g
    simpa [halfL, List.prefix_cons_inj] using this
theorem chgL_pre : ∀ (f g : List Bool) (l : Bool), chgL l f <+: chgL l (f ++ g)
  | [], g, l => by simp [chgL]
  | x :: r, g, l => by have := chgL_pre r g x; simpa [chgL, List.prefix_cons_inj] using this
theorem cntL_pre : ∀ (f g : List Bool) (l : Bool), cntL l f <+: cntL l (f ++ g)
  | [], g, l => by simp [cntL]
  | x :: r, g, l => by have := cntL_pre r g (x != l); simpa [cntL, List.prefix_cons_inj] using this
theorem dblL_pre : ∀ (f g : List Bool), dblL f <+: dblL (f ++ g)
  | [], g => by simp [dblL]
  | x :: r, g => by have := dblL_pre r g; simpa [dblL, List.prefix_cons_inj] using this
theorem byL_pre (a b c d : Bool) : ∀ (f g f' g' : List Bool), byL a b c d f g <+: byL a b c d (f ++ f') (g ++ g')
  | [], g, f', g' => by simp [byL]
  | x :: r, [], f', g' => by simp [byL]
  | x :: r, y :: s, f', g' => by have := byL_pre a b c d r s f' g'; simpa [byL, List.prefix_cons_inj] using this
theorem keepL_pre : ∀ (f g f' g' : List Bool), keepL f g <+: keepL (f ++ f') (g ++ g')
  | [], g, f', g' => by simp [keepL]
  | x :: r, [], f', g' => by simp [keepL]
  | x :: r, y :: s, f', g' => by
    have := keepL_pre r s f' g'
    cases y <;> simpa [keepL, List.prefix_cons_inj] using this
theorem lateL_pre (b : Bool) (f g : List Bool) : lateL b f <+: lateL b (f ++ g) := by
  unfold lateL
  have h : (b :: f).take f.length = ((b :: (f ++ g)).take (f ++ g).length).take f.length := by
    rw [List.take_take, Nat.min_eq_left (by simp)]
    cases f with
    | nil => rfl
    | cons x r =>
      simp only [List.length_cons, List.take_succ_cons, List.cons_append]
      congr 1
      rw [show (x :: (r ++ g)) = (x :: r) ++ g from rfl, List.take_append_of_le_length (by simp)]
  rw [h]
  exact List.take_prefix _ _
theorem oneL_pre (w : W1) (f g : List Bool) : oneL w f <+: oneL w (f ++ g) := by
  cases w with
  | no => simp [oneL]
  | twice => exact dblL_pre f g
  | half => exact halfL_pre f g
  | change => exact chgL_pre f g false
  | count => exact cntL_pre f g false
theorem flow_pre : ∀ (t : Tm) (s g : List Bool), flow t s <+: flow t (s ++ g) := by
  intro t
  induction t with
  | inn => intro s g; simp [flow]
  | one w t ih =>
    intro s g
    obtain ⟨r, hr⟩ := ih s g
    simp only [flow, ← hr]
    exact oneL_pre w _ _
  | late b t ih =>
    intro s g
    obtain ⟨r, hr⟩ := ih s g
    simp only [flow, ← hr]
    exact lateL_pre b _ _
  | byy a b c d t u ih1 ih2 =>
    intro s g
    obtain ⟨r, hr⟩ := ih1 s g
    obtain ⟨q, hq⟩ := ih2 s g
    simp only [flow, ← hr, ← hq]
    exact byL_pre a b c d _ _ _ _
  | keep t u ih1 ih2 =>
    intro s g
    obtain ⟨r, hr⟩ := ih1 s g
    obtain ⟨q, hq⟩ := ih2 s g
    simp only [flow, ← hr, ← hq]
    exact keepL_pre _ _ _ _
  | thn t u ih1 ih2 =>
    intro s g
    obtain ⟨r, hr⟩ := ih1 s g
    simp only [flow, ← hr]
    exact ih2 _ _
theorem flow_nil : ∀ t : Tm, flow t [] = [] := by
  intro t
  have h := flow_len t []
  simpa using h
end FY

set_option Elab.async false
set_option linter.all false
set_option maxRecDepth 100000
set_option maxHeartbeats 4000000
namespace FY
open PySem L2 FYR
def cd (b : Bool) : Nat := if b then 49 else 48
def sgn (b : Bool) : Str := ⟨#[cd b]⟩
def tx (bs : List Bool) : Str := ⟨(bs.map cd).toArray⟩
theorem cd_inj {a b : Bool} (h : cd a = cd b) : a = b := by cases a <;> cases b <;> first | rfl | (exact absurd h (by decide))
theorem tx_inj {a b : List Bool} (h : tx a = tx b) : a = b := by
  have h1 : a.map cd = b.map cd := by
    have := congrArg Str.cps h
    simpa [tx] using this
  exact (List.map_inj_right (fun x y => cd_inj)).mp h1
theorem tx_eq (a b : List Bool) : decide (V.str (tx a) = V.str (tx b)) = decide (a = b) := by
  by_cases h : a = b
  · subst h; simp
  · rw [decide_eq_false h, decide_eq_false]
    intro q
    exact h (tx_inj (V.str.inj q))
theorem sgn_tx (b : Bool) : sgn b = tx [b] := rfl
theorem s0 : ("0" : Str) = sgn false := by decide +kernel
theorem s1 : ("1" : Str) = sgn true := by decide +kernel
theorem se : ("" : Str) = tx [] := by decide +kernel
theorem tx_size (bs : List Bool) : (tx bs).cps.size = bs.length := by simp [tx]
theorem tx_len (bs : List Bool) : (tx bs).length = bs.length := tx_size bs
theorem tx_get (bs : List Bool) (i : Nat) : (tx bs).cps[i]? = (bs[i]?).map cd := by simp [tx]
theorem tx_app (a b : List Bool) : tx a ++ tx b = tx (a ++ b) := by
  show (⟨(tx a).cps ++ (tx b).cps⟩ : Str) = _
  simp [tx]
theorem str_ext {a b : Str} (h : a.cps.toList = b.cps.toList) : a = b := by
  obtain ⟨x⟩ := a
  obtain ⟨y⟩ := b
  exact congrArg Str.mk (Array.toList_inj.mp h)
theorem tx_toList (bs : List Bool) : (tx bs).cps.toList = bs.map cd := by simp [tx]
theorem join_def (sep : Str) (ys : List Str) : Txt.join sep ys = Str.join sep ys := by
  have h := PyProof.Rows.join_closes (sep := sep) (sep' := sep) (ys := ys) rfl
  simpa using h
theorem join_tx : ∀ (ys : List (List Bool)), Txt.join (tx []) (ys.map tx) = tx ys.flatten := by
  intro ys
  rw [join_def]
  induction ys with
  | nil => rfl
  | cons y r ih =>
    cases r with
    | nil =>
      show tx y = tx [y].flatten
      simp
    | cons z r =>
      show tx y ++ tx [] ++ Str.join (tx []) ((z :: r).map tx) = _
      rw [ih, tx_app, tx_app]
      simp
theorem flat_sgn (bs : List Bool) : (bs.map fun b => [b]).flatten = bs := by
  induction bs with
  | nil => rfl
  | cons b r ih => simp [ih]
theorem join_sgn (bs : List Bool) : Txt.join (tx []) (bs.map sgn) = tx bs := by
  have h := join_tx (bs.map fun b => [b])
  rw [flat_sgn, List.map_map] at h
  exact h
theorem cut_tx (bs : List Bool) (lo hi : Option Int) : cutS (tx bs) lo hi = tx ((bs.drop (HT.sIx bs.length 0 lo)).take (HT.sIx bs.length bs.length hi - HT.sIx bs.length 0 lo)) := by
  apply str_ext
  rw [tx_toList]
  unfold cutS
  rw [tx_len, tx_toList]
  simp [List.map_take, List.map_drop]
theorem cut_to (bs : List Bool) (k : Nat) : cutS (tx bs) none (some (k : Int)) = tx (bs.take k) := by
  rw [cut_tx, HT.sIx_none, HT.sIx_nat]
  congr 1
  simp only [List.drop_zero, Nat.sub_zero]
  rw [← List.take_take, List.take_of_length_le (Nat.le_refl _)]
theorem step_tx (bs : List Bool) : stepS (tx bs) (some 1) none 2 = tx (halfL bs) := by
  have e1 : Builtin.Str.strSliceIndices (some 1) none 2 bs.length = (List.range (bs.length / 2)).map fun k => 2 * k + 1 := by
    unfold Builtin.Str.strSliceIndices sliceRange
    simp only [show ((2 : Int) > 0) = True from by simp, if_true]
    have hc : max 0 (min (if (1 : Int) < 0 then 1 + (bs.length : Int) else 1) (bs.length : Int)) = min 1 (bs.length : Int) := by
      rw [if_neg (by decide)]; omega
    rw [hc]
    by_cases h : min (1 : Int) bs.length < bs.length
    · rw [if_pos h]
      have e2 : (((bs.length : Int) - min 1 (bs.length : Int) + 2 - 1) / 2).toNat = bs.length / 2 := by omega
      rw [e2]
      refine List.map_congr_left fun k _ => ?_
      omega
    · rw [if_neg h]
      have e2 : bs.length / 2 = 0 := by omega
      simp [e2]
  unfold stepS
  rw [if_neg (by simp), tx_len, e1]
  apply str_ext
  rw [tx_toList]
  show List.filterMap _ _ = _
  rw [List.filterMap_map]
  clear e1
  have key : ∀ (n : Nat) (l : List Bool), l.length ≤ n → List.filterMap ((fun x => (tx l).cps[x]?) ∘ fun k => 2 * k + 1) (List.range (l.length / 2)) = (halfL l).map cd := by
    intro n
    induction n with
    | zero =>
      intro l hl
      cases l with
      | nil => rfl
      | cons _ _ => simp at hl
    | succ n ih =>
      intro l hl
      match l, hl with
      | [], _ => rfl
      | [x], _ => simp [halfL]
      | x :: y :: r, hl =>
        have e : (x :: y :: r).length / 2 = r.length / 2 + 1 := by simp only [List.length_cons]; omega
        rw [e, List.range_succ_eq_map, List.filterMap_cons]
        have e0 : ((fun i => (tx (x :: y :: r)).cps[i]?) ∘ fun k => 2 * k + 1) 0 = some (cd y) := by
          show (tx (x :: y :: r)).cps[1]? = _
          rw [tx_get]; rfl
        rw [e0]
        show cd y :: _ = cd y :: _
        congr 1
        rw [List.filterMap_map]
        have hr := ih r (by simp only [List.length_cons] at hl; omega)
        rw [← hr]
        congr 1
        funext k
        show (tx (x :: y :: r)).cps[2 * (k + 1) + 1]? = (tx r).cps[2 * k + 1]?
        rw [tx_get, tx_get, show 2 * (k + 1) + 1 = (2 * k + 1) + 1 + 1 by omega]
        rfl
  exact key bs.length bs (Nat.le_refl _)
theorem starts_tx (a b : List Bool) : Txt.startswith (tx a) (tx b) = decide (b <+: a) := by
  unfold Txt.startswith Builtin.Str.subAt
  rw [tx_len, tx_len, Nat.zero_add]
  by_cases h : b <+: a
  · obtain ⟨r, rfl⟩ := h
    rw [decide_eq_true (List.prefix_append b r)]
    simp [tx]
  · rw [decide_eq_false h]
    by_cases hl : b.length ≤ a.length
    · have hn : ((tx a).cps.extract 0 b.length == (tx b).cps) = false := by
        rw [beq_eq_false_iff_ne]
        intro q
        apply h
        have q2 := congrArg Array.toList q
        have q3 : (a.take b.length).map cd = b.map cd := by simpa [tx, List.map_take] using q2
        have q4 := (List.map_inj_right (fun x y => cd_inj)).mp q3
        rw [← q4]
        exact List.take_prefix _ _
      rw [hn]; simp
    · simp [hl]
theorem int_sgn (b : Bool) : PySem.intText? (sgn b) = some (if b then 1 else 0) := by
  cases b <;> decide +kernel
theorem str_bit (b : Bool) : ((toString (if b then (1 : Int) else 0) : String) : Str) = sgn b := by
  cases b <;> decide +kernel
end FY

set_option Elab.async false
set_option linter.all false
set_option maxRecDepth 100000
set_option maxHeartbeats 4000000
namespace FY
open PySem L2 FYR
def W1.s : W1 → Str
  | .no => "not" | .twice => "twice" | .half => "half" | .change => "change" | .count => "count"
def Tm.word : Tm → Str
  | .inn => "in" | .one w _ => w.s | .late _ _ => "late" | .byy _ _ _ _ _ _ => "by" | .keep _ _ => "keep" | .thn _ _ => "then"
/-- what else stands in the tuple ahead of the parts -/
def Tm.extra : Tm → List Str
  | .late b _ => [sgn b] | .byy a b c d _ _ => [tx [a, b, c, d]] | _ => []
def Tm.parts : Tm → List Tm
  | .inn => [] | .one _ t => [t] | .late _ t => [t] | .byy _ _ _ _ t u => [t, u] | .keep t u => [t, u] | .thn t u => [t, u]
def Tm.isIn : Tm → Bool | .inn => true | _ => false
def Tm.data : Tm → PyData
  | .inn => .str "in"
  | .one w t => .tuple [.str w.s, t.data]
  | .late b t => .tuple [.str "late", .str (sgn b), t.data]
  | .byy a b c d t u => .tuple [.str "by", .str (tx [a, b, c, d]), t.data, u.data]
  | .keep t u => .tuple [.str "keep", t.data, u.data]
  | .thn t u => .tuple [.str "then", t.data, u.data]
/-- the value v is the term t -/
def TA (H : Hp) : V → Tm → Prop
  | v, .inn => v = .str "in"
  | v, .one w t => ∃ a x, v = .ref a ∧ H a = some (.tup [.str w.s, x]) ∧ TA H x t
  | v, .late b t => ∃ a x, v = .ref a ∧ H a = some (.tup [.str "late", .str (sgn b), x]) ∧ TA H x t
  | v, .byy a b c d t u => ∃ p x y, v = .ref p ∧ H p = some (.tup [.str "by", .str (tx [a, b, c, d]), x, y]) ∧ TA H x t ∧ TA H y u
  | v, .keep t u => ∃ p x y, v = .ref p ∧ H p = some (.tup [.str "keep", x, y]) ∧ TA H x t ∧ TA H y u
  | v, .thn t u => ∃ p x y, v = .ref p ∧ H p = some (.tup [.str "then", x, y]) ∧ TA H x t ∧ TA H y u
/-- the tuples stay -/
def Tups (H H' : Hp) : Prop := ∀ a xs, H a = some (.tup xs) → H' a = some (.tup xs)
theorem Tups.of {H H' : Hp} (h : Same H H') : Tups H H' := fun a xs e => h a _ e
theorem Tups.refl (H : Hp) : Tups H H := fun _ _ e => e
theorem Tups.trans {H H1 H2 : Hp} (a : Tups H H1) (b : Tups H1 H2) : Tups H H2 := fun x xs e => b x xs (a x xs e)
theorem TA.keep {H H' : Hp} (k : Tups H H') : ∀ {t : Tm} {v : V}, TA H v t → TA H' v t := by
  intro t
  induction t with
  | inn => intro v h; exact h
  | one w t ih => rintro v ⟨a, x, e, h, r⟩; exact ⟨a, x, e, k _ _ h, ih r⟩
  | late b t ih => rintro v ⟨a, x, e, h, r⟩; exact ⟨a, x, e, k _ _ h, ih r⟩
  | byy a b c d t u i1 i2 => rintro v ⟨p, x, y, e, h, r, q⟩; exact ⟨p, x, y, e, k _ _ h, i1 r, i2 q⟩
  | keep t u i1 i2 => rintro v ⟨p, x, y, e, h, r, q⟩; exact ⟨p, x, y, e, k _ _ h, i1 r, i2 q⟩
  | thn t u i1 i2 => rintro v ⟨p, x, y, e, h, r, q⟩; exact ⟨p, x, y, e, k _ _ h, i1 r, i2 q⟩
/-- a node that is no "in", whichever -/
theorem TA.node {H : Hp} {t : Tm} {v : V} (h : TA H v t) (hn : t.isIn = false) : ∃ a ws, v = .ref a ∧ H a = some (.tup (.str t.word :: (t.extra.map V.str ++ ws))) ∧ Paired (TA H) ws t.parts := by
  cases t with
  | inn => cases hn
  | one w t => obtain ⟨a, x, e, h, r⟩ := h; exact ⟨a, [x], e, h, .cons r .nil⟩
  | late b t => obtain ⟨a, x, e, h, r⟩ := h; exact ⟨a, [x], e, h, .cons r .nil⟩
  | byy a b c d t u => obtain ⟨p, x, y, e, h, r, q⟩ := h; exact ⟨p, [x, y], e, h, .cons r (.cons q .nil)⟩
  | keep t u => obtain ⟨p, x, y, e, h, r, q⟩ := h; exact ⟨p, [x, y], e, h, .cons r (.cons q .nil)⟩
  | thn t u => obtain ⟨p, x, y, e, h, r, q⟩ := h; exact ⟨p, [x, y], e, h, .cons r (.cons q .nil)⟩
theorem TA.dp {K : PySem.W.Frag} {H : Hp} : ∀ {t : Tm} {v : V}, TA H v t → Dp K H v t.data := by
  intro t
  induction t with
  | inn => rintro v rfl; exact .str _
  | one w t ih => rintro v ⟨a, x, rfl, h, r⟩; exact .tup (SqT.of h) (.cons (.str _) (.cons (ih r) .nil))
  | late b t ih => rintro v ⟨a, x, rfl, h, r⟩; exact .tup (SqT.of h) (.cons (.str _) (.cons (.str _) (.cons (ih r) .nil)))
  | byy a b c d t u i1 i2 => rintro v ⟨p, x, y, rfl, h, r, q⟩; exact .tup (SqT.of h) (.cons (.str _) (.cons (.str _) (.cons (i1 r) (.cons (i2 q) .nil))))
  | keep t u i1 i2 => rintro v ⟨p, x, y, rfl, h, r, q⟩; exact .tup (SqT.of h) (.cons (.str _) (.cons (i1 r) (.cons (i2 q) .nil)))
  | thn t u i1 i2 => rintro v ⟨p, x, y, rfl, h, r, q⟩; exact .tup (SqT.of h) (.cons (.str _) (.cons (i1 r) (.cons (i2 q) .nil)))
theorem sgn_ok (b : Bool) : PyData.strOk (sgn b) = true := by cases b <;> decide +kernel
theorem tab_ok (a b c d : Bool) : PyData.strOk (tx [a, b, c, d]) = true := by cases a <;> cases b <;> cases c <;> cases d <;> decide +kernel
theorem w1_ok (w : W1) : PyData.strOk w.s = true := by cases w <;> decide +kernel
theorem lay_tm (t : Tm) : t.data.canLay0 = true := by
  induction t with
  | inn => decide +kernel
  | one w t ih => simp [Tm.data, PyData.canLay0, PyData.canLayAll0, ih, w1_ok]
  | late b t ih => simp [Tm.data, PyData.canLay0, PyData.canLayAll0, ih, sgn_ok]; decide +kernel
  | byy a b c d t u i1 i2 => simp [Tm.data, PyData.canLay0, PyData.canLayAll0, i1, i2, tab_ok]; decide +kernel
  | keep t u i1 i2 => simp [Tm.data, PyData.canLay0, PyData.canLayAll0, i1, i2]; decide +kernel
  | thn t u i1 i2 => simp [Tm.data, PyData.canLay0, PyData.canLayAll0, i1, i2]; decide +kernel
theorem depth_tm (t : Tm) : t.data.depth ≤ t.nodes := by
  induction t with
  | inn => simp [Tm.data, PyData.depth]
  | one w t ih => simp [Tm.data, PyData.depth, PyData.depthAll, Tm.nodes]; omega
  | late b t ih => simp [Tm.data, PyData.depth, PyData.depthAll, Tm.nodes]; omega
  | byy a b c d t u i1 i2 => simp [Tm.data, PyData.depth, PyData.depthAll, Tm.nodes]; omega
  | keep t u i1 i2 => simp [Tm.data, PyData.depth, PyData.depthAll, Tm.nodes]; omega
  | thn t u i1 i2 => simp [Tm.data, PyData.depth, PyData.depthAll, Tm.nodes]; omega
theorem shp_tm {t : Tm} (h : t.nodes ≤ 40) : SeqAt.shaped t.data = true := by
  unfold SeqAt.shaped
  have := depth_tm t
  simp [lay_tm]
  omega
theorem eqv_in (t : Tm) : PyData.eqv t.data (.str "in") = t.isIn := by
  cases t <;> simp [Tm.data, PyData.eqv, Tm.isIn]
theorem shp_in : SeqAt.shaped (.str "in") = true := by decide +kernel
theorem same_new {H : Hp} {p : Addr} (h : H p = none) (o : HO) : Same H (upd H p o) := fun b u q => by rw [upd_ne (ne_of_none q h)]; exact q
theorem small5 {n : Nat} (h : n ≤ 100000) : n ≤ sizeLine := Nat.le_trans h (by decide)
theorem paired_keep {H H' : Hp} (k : Tups H H') : ∀ {ws : List V} {ts : List Tm}, Paired (TA H) ws ts → Paired (TA H') ws ts
  | _, _, .nil => .nil
  | _, _, .cons r q => .cons (r.keep k) (paired_keep k q)
theorem show_tm (t : Tm) : t.data.showable = true ∧ t.data.hasDict = false := by
  induction t with
  | inn => exact ⟨rfl, rfl⟩
  | one w t ih => simp [Tm.data, PyData.showable, PyData.showableAll, PyData.hasDict, PyData.hasDictAll, ih]
  | late b t ih => simp [Tm.data, PyData.showable, PyData.showableAll, PyData.hasDict, PyData.hasDictAll, ih]
  | byy a b c d t u i1 i2 => simp [Tm.data, PyData.showable, PyData.showableAll, PyData.hasDict, PyData.hasDictAll, i1, i2]
  | keep t u i1 i2 => simp [Tm.data, PyData.showable, PyData.showableAll, PyData.hasDict, PyData.hasDictAll, i1, i2]
  | thn t u i1 i2 => simp [Tm.data, PyData.showable, PyData.showableAll, PyData.hasDict, PyData.hasDictAll, i1, i2]
def op1 : Tm → List Bool → List Bool
  | .one w _, f => oneL w f
  | .late b _, f => lateL b f
  | _, f => f
def op2 : Tm → List Bool → List Bool → List Bool
  | .byy a b c d _ _, f, g => byL a b c d f g
  | .keep _ _, f, g => keepL f g
  | _, f, _ => f
end FY

set_option Elab.async false
set_option linter.all false
set_option maxRecDepth 100000
set_option maxHeartbeats 4000000
namespace FY
open PySem L2 FYR
def put : Tm → Tm → Tm
  | .inn, o => o
  | .one w t, o => .one w (put t o)
  | .late b t, o => .late b (put t o)
  | .byy a b c d t u, o => .byy a b c d (put t o) (put u o)
  | .keep t u, o => .keep (put t o) (put u o)
  | .thn t u, o => .thn (put t o) u
def plain : Tm → Tm
  | .inn => .inn
  | .one w t => .one w (plain t)
  | .late b t => .late b (plain t)
  | .byy a b c d t u => .byy a b c d (plain t) (plain u)
  | .keep t u => .keep (plain t) (plain u)
  | .thn t u => put (plain u) (plain t)
def Tm.dep : Tm → Nat
  | .inn => 1
  | .one _ t => t.dep + 1
  | .late _ t => t.dep + 1
  | .byy _ _ _ _ t u => max t.dep u.dep + 1
  | .keep t u => max t.dep u.dep + 1
  | .thn t u => max t.dep u.dep + 1
def noThn : Tm → Bool
  | .inn => true
  | .one _ t => noThn t
  | .late _ t => noThn t
  | .byy _ _ _ _ t u => noThn t && noThn u
  | .keep t u => noThn t && noThn u
  | .thn _ _ => false
theorem flow_put : ∀ (t o : Tm) (s : List Bool), flow (put t o) s = flow t (flow o s) := by
  intro t
  induction t with
  | inn => intro o s; rfl
  | one w t ih => intro o s; simp [put, flow, ih]
  | late b t ih => intro o s; simp [put, flow, ih]
  | byy a b c d t u i1 i2 => intro o s; simp [put, flow, i1, i2]
  | keep t u i1 i2 => intro o s; simp [put, flow, i1, i2]
  | thn t u i1 i2 => intro o s; simp [put, flow, i1]
theorem flow_plain : ∀ (t : Tm) (s : List Bool), flow (plain t) s = flow t s := by
  intro t
  induction t with
  | inn => intro s; rfl
  | one w t ih => intro s; simp [plain, flow, ih]
  | late b t ih => intro s; simp [plain, flow, ih]
  | byy a b c d t u i1 i2 => intro s; simp [plain, flow, i1, i2]
  | keep t u i1 i2 => intro s; simp [plain, flow, i1, i2]
  | thn t u i1 i2 => intro s; simp [plain, flow, flow_put, i1, i2]
theorem put_inn : ∀ t : Tm, put t .inn = t := by
  intro t
  induction t <;> simp_all [put]
theorem noThn_put : ∀ t o : Tm, noThn t = true → noThn o = true → noThn (put t o) = true := by
  intro t
  induction t <;> simp_all [put, noThn]
theorem noThn_plain : ∀ t : Tm, noThn (plain t) = true := by
  intro t
  induction t with
  | thn t u i1 i2 => exact noThn_put _ _ i2 i1
  | _ => simp_all [plain, noThn]
theorem plain_of : ∀ t : Tm, noThn t = true → plain t = t := by
  intro t
  induction t <;> simp_all [plain, noThn]
theorem plain_plain (t : Tm) : plain (plain t) = plain t := plain_of _ (noThn_plain t)
theorem Tm.dep_le (t : Tm) : t.dep ≤ t.nodes := by
  induction t with
  | inn => simp [Tm.dep, Tm.nodes]
  | one w t ih => simp [Tm.dep, Tm.nodes]; omega
  | late b t ih => simp [Tm.dep, Tm.nodes]; omega
  | byy a b c d t u i1 i2 => simp [Tm.dep, Tm.nodes]; omega
  | keep t u i1 i2 => simp [Tm.dep, Tm.nodes]; omega
  | thn t u i1 i2 => simp [Tm.dep, Tm.nodes]; omega
theorem Tm.dep_pos (t : Tm) : 1 ≤ t.dep := by cases t <;> simp [Tm.dep]
theorem dep_put (o : Tm) : ∀ t : Tm, (put t o).dep ≤ t.dep + o.dep := by
  intro t
  induction t with
  | inn => simp [put, Tm.dep]
  | one w t ih => simp [put, Tm.dep]; omega
  | late b t ih => simp [put, Tm.dep]; omega
  | byy a b c d t u i1 i2 => simp [put, Tm.dep]; omega
  | keep t u i1 i2 => simp [put, Tm.dep]; omega
  | thn t u i1 i2 => simp [put, Tm.dep]; omega
theorem dep_plain : ∀ t : Tm, (plain t).dep ≤ t.nodes := by
  intro t
  induction t with
  | inn => simp [plain, Tm.dep, Tm.nodes]
  | one w t ih => simp [plain, Tm.dep, Tm.nodes]; omega
  | late b t ih => simp [plain, Tm.dep, Tm.nodes]; omega
  | byy a b c d t u i1 i2 => simp [plain, Tm.dep, Tm.nodes]; omega
  | keep t u i1 i2 => simp [plain, Tm.dep, Tm.nodes]; omega
  | thn t u i1 i2 => have := dep_put (plain t) (plain u); simp [plain, Tm.nodes]; omega
theorem depth_dep (t : Tm) : t.data.depth ≤ t.dep := by
  induction t with
  | inn => simp [Tm.data, PyData.depth]
  | one w t ih => simp [Tm.data, PyData.depth, PyData.depthAll, Tm.dep]; omega
  | late b t ih => simp [Tm.data, PyData.depth, PyData.depthAll, Tm.dep]; omega
  | byy a b c d t u i1 i2 => simp [Tm.data, PyData.depth, PyData.depthAll, Tm.dep]; omega
  | keep t u i1 i2 => simp [Tm.data, PyData.depth, PyData.depthAll, Tm.dep]; omega
  | thn t u i1 i2 => simp [Tm.data, PyData.depth, PyData.depthAll, Tm.dep]; omega
theorem shp_dep {t : Tm} (h : t.dep ≤ 60) : SeqAt.shaped t.data = true := by
  unfold SeqAt.shaped
  have := depth_dep t
  simp [lay_tm]
  omega
theorem parts_dep {t u : Tm} (h : u ∈ t.parts) : u.dep + 1 ≤ t.dep := by
  cases t <;> simp [Tm.parts, Tm.dep] at h ⊢
  · subst h; omega
  · subst h; omega
  · rcases h with rfl | rfl <;> omega
  · rcases h with rfl | rfl <;> omega
  · rcases h with rfl | rfl <;> omega
theorem parts_few (t : Tm) : t.parts.length ≤ 2 := by cases t <;> simp [Tm.parts]
end FY

set_option Elab.async false
set_option linter.all false
set_option maxRecDepth 100000
set_option maxHeartbeats 4000000
namespace FY
open PySem L2 FYR
def top (i : Nat) : Stmt := PySem.Challenge.pw_flowyard_k10_stations_told_and_refused.main.body.getD i (.Pass ⟨0, 0, 0, 0⟩)
theorem bt_len : bootBuiltins "len" = some (.builtin "len") := by decide +kernel
theorem bt_isinstance : bootBuiltins "isinstance" = some (.builtin "isinstance") := by decide +kernel
theorem bt_all : bootBuiltins "all" = some (.builtin "all") := by decide +kernel
theorem bt_sum : bootBuiltins "sum" = some (.builtin "sum") := by decide +kernel
theorem bt_abs : bootBuiltins "abs" = some (.builtin "abs") := by decide +kernel
theorem bt_max : bootBuiltins "max" = some (.builtin "max") := by decide +kernel
theorem bt_min : bootBuiltins "min" = some (.builtin "min") := by decide +kernel
theorem bt_divmod : bootBuiltins "divmod" = some (.builtin "divmod") := by decide +kernel
theorem bt_repr : bootBuiltins "repr" = some (.builtin "repr") := by decide +kernel
theorem bt_int : bootBuiltins "int" = some (.type "int") := by decide +kernel
theorem bt_str : bootBuiltins "str" = some (.type "str") := by decide +kernel
theorem bt_tuple : bootBuiltins "tuple" = some (.type "tuple") := by decide +kernel
theorem bt_bool : bootBuiltins "bool" = some (.type "bool") := by decide +kernel
theorem bt_sorted : bootBuiltins "sorted" = some (.builtin "sorted") := by decide +kernel
theorem bt_dict : bootBuiltins "dict" = some (.type "dict") := by decide +kernel
theorem bt_list : bootBuiltins "list" = some (.type "list") := by decide +kernel
structure Txt (K : PySem.W.Frag) (mg : Str → Option Value) (aS a1 a2 : Addr) : Prop where
  b_len : mg "len" = none
  b_isinstance : mg "isinstance" = none
  b_all : mg "all" = none
  b_sum : mg "sum" = none
  b_abs : mg "abs" = none
  b_max : mg "max" = none
  b_min : mg "min" = none
  b_divmod : mg "divmod" = none
  b_repr : mg "repr" = none
  b_int : mg "int" = none
  b_str : mg "str" = none
  b_tuple : mg "tuple" = none
  b_list : mg "list" = none
  b_zip : mg "zip" = none
  b_range : mg "range" = none
  b_dict : mg "dict" = none
  b_bool : mg "bool" = none
  b_enumerate : mg "enumerate" = none
  b_sorted : mg "sorted" = none
  g_SIGNS : ∃ u, mg "SIGNS" = some u ∧ RelV (.ref aS) u
  k_SIGNS : ∀ H, SqT K H aS [.str "0", .str "1"]
  g_MOST_STANDINGS : ∃ u, mg "MOST_STANDINGS" = some u ∧ RelV (.int 4) u
  g_MOST_GIVEN : ∃ u, mg "MOST_GIVEN" = some u ∧ RelV (.int 2) u
  g_MOST_TICKS : ∃ u, mg "MOST_TICKS" = some u ∧ RelV (.int 9) u
/-! promises -/
def spIsSign : Sp := fun vs H Q _ => ∃ b, vs = [.str (sgn b)] ∧ Q (.bl true) H
def spIsText : Sp := fun vs H Q _ => ∃ bs, vs = [.str (tx bs)] ∧ bs.length ≤ 100000 ∧ ∀ H', Same H H' → Q (.bl true) H'
def spIsTextOf : Sp := fun vs H Q _ => ∃ (bs : List Bool) (n : Int), vs = [.str (tx bs), .int n] ∧ bs.length ≤ 100000 ∧ ∀ H', Same H H' → Q (.bl (decide ((bs.length : Int) ≤ n))) H'
def spWantStream : Sp := fun vs H Q _ => ∃ bs, vs = [.str (tx bs)] ∧ bs.length ≤ 1000 ∧ ∀ H', Same H H' → Q .non H'
def spPartsOf : Sp := fun vs H Q _ => ∃ v t, vs = [v] ∧ TA H v t ∧ t.dep ≤ 60 ∧ ∀ H' p ws, Same H H' → H' p = some (.tup ws) → Paired (TA H') ws t.parts → Q (.ref p) H'
def spHasShape : Sp := fun vs H Q _ => ∃ v t, vs = [v] ∧ TA H v t ∧ t.isIn = false ∧ ∀ H', Same H H' → Q (.bl true) H'
def spIsTerm : Sp := fun vs H Q _ => ∃ v t, vs = [v] ∧ TA H v t ∧ t.nodes ≤ 40 ∧ ∀ H', Same H H' → Q (.bl (decide (t.nodes ≤ 9))) H'
def spWantTerm : Sp := fun vs H Q _ => ∃ v t, vs = [v] ∧ TA H v t ∧ t.nodes ≤ 9 ∧ ∀ H', Same H H' → Q .non H'
theorem ty_str {K : PySem.W.Frag} {H : Hp} (x : Str) : TyX K H (.str x) (.type "str") := .base (.str x)
theorem ty_tup {K : PySem.W.Frag} {H : Hp} {a : Addr} {xs : List V} (h : H a = some (.tup xs)) : TyX K H (.ref a) (.type "tuple") := .base (.tup h)
theorem kss {K : PySem.W.Frag} : PySem.W.kitOne K (.type "str") (.type "str") = some true := kit_ty (by decide +kernel)
theorem kts {K : PySem.W.Frag} : PySem.W.kitOne K (.type "tuple") (.type "str") = some false := kit_ty (by decide +kernel)
theorem ktt {K : PySem.W.Frag} : PySem.W.kitOne K (.type "tuple") (.type "tuple") = some true := kit_ty (by decide +kernel)
theorem kst {K : PySem.W.Frag} : PySem.W.kitOne K (.type "str") (.type "tuple") = some false := kit_ty (by decide +kernel)
theorem tyI {σ : St} {H : Hp} {A B : Hp → Prop} (h : A H) : tYes σ H (fun b H3 => if b = true then A H3 else B H3) := by
  show if true = true then A H else B H
  rw [if_pos rfl]
  exact h
theorem o1w (w : W1) : (if false = true then !inV (.str w.s) [.str "not", .str "twice", .str "half", .str "change", .str "count"] else inV (.str w.s) [.str "not", .str "twice", .str "half", .str "change", .str "count"]) = true := by cases w <;> decide +kernel
theorem o1l : (if false = true then !inV (.str "late") [.str "not", .str "twice", .str "half", .str "change", .str "count"] else inV (.str "late") [.str "not", .str "twice", .str "half", .str "change", .str "count"]) = false := by decide +kernel
theorem o1b : (if false = true then !inV (.str "by") [.str "not", .str "twice", .str "half", .str "change", .str "count"] else inV (.str "by") [.str "not", .str "twice", .str "half", .str "change", .str "count"]) = false := by decide +kernel
theorem o1k : (if false = true then !inV (.str "keep") [.str "not", .str "twice", .str "half", .str "change", .str "count"] else inV (.str "keep") [.str "not", .str "twice", .str "half", .str "change", .str "count"]) = false := by decide +kernel
theorem o1t : (if false = true then !inV (.str "then") [.str "not", .str "twice", .str "half", .str "change", .str "count"] else inV (.str "then") [.str "not", .str "twice", .str "half", .str "change", .str "count"]) = false := by decide +kernel
theorem o2l : (if false = true then !inV (.str "late") [.str "keep", .str "then"] else inV (.str "late") [.str "keep", .str "then"]) = false := by decide +kernel
theorem o2b : (if false = true then !inV (.str "by") [.str "keep", .str "then"] else inV (.str "by") [.str "keep", .str "then"]) = false := by decide +kernel
theorem o2k : (if false = true then !inV (.str "keep") [.str "keep", .str "then"] else inV (.str "keep") [.str "keep", .str "then"]) = true := by decide +kernel
theorem o2t : (if false = true then !inV (.str "then") [.str "keep", .str "then"] else inV (.str "then") [.str "keep", .str "then"]) = true := by decide +kernel
theorem iteTd {c : Bool} {A B : Prop} (e : c = true) (h : A) : if c = true then A else B := by
  subst e
  exact iteT h
theorem iteFd {c : Bool} {A B : Prop} (e : c = false) (h : B) : if c = true then A else B := by
  subst e
  exact iteF h
theorem nw1 {p : Prop} : ¬ ((1 : Nat) = 0 ∧ p) := fun z => absurd z.1 (by decide)
theorem nw2 {p : Prop} : ¬ ((2 : Nat) = 0 ∧ p) := fun z => absurd z.1 (by decide)
theorem in_signs (b : Bool) : inV (.str (sgn b)) [.str "0", .str "1"] = true := by cases b <;> decide +kernel
section
variable {P : Program} {w : World} {K : PySem.W.Frag} {mg : Str → Option Value} {base : Heap} {aS a1 a2 : Addr} {f : Addr} {fd : FuncData}
abbrev s_is_sign : Stmt := top 5
abbrev N_is_sign : List Str := ["value"]
theorem sc_is_sign : FnScope N_is_sign ["value"] (defScope s_is_sign) := ⟨rfl, rfl, rfl, by decide +kernel, rfl, by decide +kernel, by decide +kernel⟩
theorem ok_is_sign (F : Fun K "is_sign" "is_sign" s_is_sign f fd) (T : Txt K mg aS a1 a2) : FnOk P w K mg base CX0 1 f fd ["value"] spIsSign := by
  refine F.ok sc_is_sign (fun vs H Q E h => ?_) (fun cdv A outer s H vs Q E hr h => ?_)
  · obtain ⟨b, rfl, _⟩ := h
    rfl
  obtain ⟨b, rfl, q⟩ := h
  refine ⟨_, (pss_one (ps_ret (pe_and (pe_callB (kIsi K rfl) rfl T.b_isinstance bt_isinstance (pa_cons (pv 0) (pa_cons (pTy rfl T.b_str bt_str) pa_nil))) (pe_one (pe_cmpR (kIn K rfl) (pv 0) (C8.pe_gc rfl T.g_SIGNS) rfl))))), ?_⟩
  refine ⟨_, rfl, _, _, _, _, _, rfl, .ty _, ty_str _, kss, _, rfl, iteT ?_⟩
  refine ⟨_, rfl, _, _, rfl, .inr (T.k_SIGNS _), rfl, rfl, ?_⟩
  rw [if_neg Bool.false_ne_true, in_signs]
  exact q
abbrev s_is_text : Stmt := top 6
abbrev N_is_text : List Str := ["value", "sign"]
theorem sc_is_text : FnScope N_is_text ["value"] (defScope s_is_text) := ⟨rfl, rfl, rfl, by decide +kernel, rfl, by decide +kernel, by decide +kernel⟩
theorem ok_is_text (F : Fun K "is_text" "is_text" s_is_text f fd) (T : Txt K mg aS a1 a2) : FnOk P w K mg base CX0 1 f fd ["value"] spIsText := by
  refine F.ok sc_is_text (fun vs H Q E h => ?_) (fun cdv A outer s H vs Q E hr h => ?_)
  · obtain ⟨b, rfl, _⟩ := h
    rfl
  obtain ⟨bs, rfl, hl, q⟩ := h
  refine ⟨_, (pss_one (ps_ret (pe_and (pe_callB (kIsi K rfl) rfl T.b_isinstance bt_isinstance (pa_cons (pv 0) (pa_cons (pTy rfl T.b_str bt_str) pa_nil))) (pe_one (pe_callB (kAll K rfl rfl) rfl T.b_all bt_all (pa_cons (pe_lc (own := [("sign", 1)]) rfl sc_is_text.nd (pi_str (pv 0)) (blkOk_by (N := N_is_text) (sc := defScope s_is_text) (by decide +kernel)) (fun _ _ _ _ _ => (pg_name (i := 1) sc_is_text.nd rfl (Or.inl rfl))) (fun _ _ _ _ _ => pts_nil) (fun _ _ _ _ _ => (pe_cmpR (kIn K rfl) (pv 1) (C8.pe_gc rfl T.g_SIGNS) rfl))) pa_nil)))))), ?_⟩
  refine ⟨_, rfl, _, _, _, _, _, rfl, .ty _, ty_str _, kss, _, rfl, iteT ?_⟩
  refine ⟨_, rfl, _, rfl, fun D hD => lc_it walk_str (fun i H' => Same H H' ∧ H' D = some (.lst (List.replicate i (.bl true)))) ⟨same_new hD _, upd_same⟩ (fun _ _ _ _ => trivial) ?_ ?_⟩
  · rintro i x H1 H2 hi ⟨sm, hd⟩ ⟨rfl, c, hc, rfl⟩
    rw [tx_get] at hc
    obtain ⟨b, hb, rfl⟩ := Option.map_eq_some_iff.mp hc
    refine ⟨rfl, tyI ?_⟩
    refine ⟨_, rfl, _, _, rfl, .inr (T.k_SIGNS _), rfl, rfl, ?_⟩
    rw [if_neg Bool.false_ne_true]
    rw [show inV (V.str { cps := #[cd b] }) [V.str (Str.ofString "0"), V.str (Str.ofString "1")] = true from in_signs b]
    have hi' : i < bs.length := by rw [tx_size] at hi; exact hi
    refine ⟨_, hd, ?_, fun b o e => ?_, ?_⟩
    · rw [List.length_replicate]
      exact Nat.lt_of_lt_of_le hi' (small5 hl)
    · rw [upd_ne (ne_of_none e hD)]
      exact sm _ _ e
    · rw [upd_same, List.replicate_succ']
  · rintro H1 ⟨sm, hd⟩
    refine ⟨_, List.replicate (tx bs).cps.size true, rfl, SqL.of (by rw [hd, List.map_replicate]), ?_⟩
    have e : (List.replicate (tx bs).cps.size true).all id = true := by simp
    rw [e]
    exact q _ sm
abbrev s_is_text_of : Stmt := top 8
abbrev N_is_text_of : List Str := ["value", "most"]
theorem sc_is_text_of : FnScope N_is_text_of ["value", "most"] (defScope s_is_text_of) := ⟨rfl, rfl, rfl, by decide +kernel, rfl, by decide +kernel, by decide +kernel⟩
theorem ok_is_text_of (F : Fun K "is_text_of" "is_text_of" s_is_text_of f fd) (T : Txt K mg aS a1 a2) (c_is_text : C8.Cal P w K mg base 1 "is_text" spIsText []) : FnOk P w K mg base CX0 2 f fd ["value", "most"] spIsTextOf := by
  refine F.ok sc_is_text_of (fun vs H Q E h => ?_) (fun cdv A outer s H vs Q E hr h => ?_)
  · obtain ⟨b, n, rfl, _⟩ := h
    rfl
  obtain ⟨bs, n, rfl, hl, q⟩ := h
  refine ⟨_, (pss_one (ps_ret (pe_and (C8.pe_c c_is_text hr (by decide) rfl (pa_cons (pv 0) pa_nil)) (pe_one (pe_cmpR op_le (pe_callB call_len_str rfl T.b_len bt_len (pa_cons (pv 0) pa_nil)) (pv 1) (nomark _)))))), ?_⟩
  refine ⟨_, rfl, bs, rfl, hl, fun H1 sm => ⟨_, rfl, iteT ?_⟩⟩
  refine ⟨_, rfl, _, rfl, by rw [tx_len]; exact small5 hl, _, rfl, _, _, rfl, rfl, ?_⟩
  rw [tx_len]
  exact q _ sm
end
end FY


set_option Elab.async false
set_option linter.all false
set_option pp.maxSteps 4000
set_option maxRecDepth 100000
set_option maxHeartbeats 4000000
namespace FY
open PySem L2 FYR
def sumN : List Tm → Nat
  | [] => 0
  | t :: r => t.nodes + sumN r
theorem sumN_app : ∀ a b : List Tm, sumN (a ++ b) = sumN a + sumN b
  | [], b => by simp [sumN]
  | t :: a, b => by simp [sumN, sumN_app a b]; omega
theorem sumN_parts (t : Tm) : sumN t.parts + 1 = t.nodes := by cases t <;> simp [Tm.parts, sumN, Tm.nodes] <;> omega
theorem sumN_len : ∀ ts : List Tm, ts.length ≤ sumN ts
  | [] => by simp
  | t :: r => by have := sumN_len r; have := t.nodes_pos; simp [sumN]; omega
theorem sumN_mem : ∀ (ts : List Tm) (t : Tm), t ∈ ts → t.nodes ≤ sumN ts
  | [], _, h => by simp at h
  | u :: r, t, h => by
    rcases List.mem_cons.mp h with rfl | h
    · simp [sumN]
    · have := sumN_mem r t h; simp [sumN]; omega
theorem dpAll {K : PySem.W.Frag} {H : Hp} : ∀ {ws : List V} {ts : List Tm}, Paired (TA H) ws ts → DpAll K H ws (ts.map Tm.data)
  | _, _, .nil => .nil
  | _, _, .cons r q => .cons r.dp (dpAll q)
theorem layAll : ∀ ts : List Tm, PyData.canLayAll0 (ts.map Tm.data) = true
  | [] => rfl
  | t :: r => by simp [PyData.canLayAll0, lay_tm, layAll r]
theorem depAll : ∀ ts : List Tm, PyData.depthAll (ts.map Tm.data) ≤ sumN ts
  | [] => by simp [PyData.depthAll]
  | t :: r => by have := depAll r; have := depth_tm t; simp [PyData.depthAll, sumN]; omega
theorem shpAll {ts : List Tm} (h : sumN ts ≤ 40) : SeqAt.shaped (.list (ts.map Tm.data)) = true := by
  unfold SeqAt.shaped
  have := depAll ts
  simp [PyData.canLay0, layAll, PyData.depth]
  omega
theorem shpNil : SeqAt.shaped (.list []) = true := by decide +kernel
theorem eqvNil (ts : List Tm) : PyData.eqv (.list (ts.map Tm.data)) (.list []) = ts.isEmpty := by
  cases ts <;> simp [PyData.eqv, PyData.eqvAll]
theorem paired_len {α β : Type} {R : α → β → Prop} : ∀ {a : List α} {b : List β}, Paired R a b → a.length = b.length
  | _, _, .nil => rfl
  | _, _, .cons _ q => by simp [paired_len q]
theorem paired_app {α β : Type} {R : α → β → Prop} : ∀ {a : List α} {b : List β} {c : List α} {d : List β}, Paired R a b → Paired R c d → Paired R (a ++ c) (b ++ d)
  | _, _, _, _, .nil, q => q
  | _, _, _, _, .cons r p, q => .cons r (paired_app p q)
/-- the last one -/
theorem paired_last {α β : Type} {R : α → β → Prop} {a : List α} {b : List β} (h : Paired R a b) (hb : b ≠ []) : ∃ a0 x b0 y, a = a0 ++ [x] ∧ b = b0 ++ [y] ∧ Paired R a0 b0 ∧ R x y := by
  induction h with
  | nil => exact absurd rfl hb
  | @cons x y as bs r q ih =>
    cases q with
    | nil => exact ⟨[], x, [], y, rfl, rfl, .nil, r⟩
    | cons r2 q2 =>
      obtain ⟨a0, x', b0, y', e1, e2, p, rr⟩ := ih (by simp)
      exact ⟨x :: a0, x', y :: b0, y', by rw [e1]; rfl, by rw [e2]; rfl, .cons r p, rr⟩
theorem _root_.L2.Same.trans' {H H1 H2 : Hp} (a : Same H H1) (b : Same H1 H2) : Same H H2 := fun x o e => b x o (a x o e)
theorem same_at {H H1 : Hp} {L : Addr} {o : HO} (a : Same H H1) (h : H L = none) : Same H (upd H1 L o) := fun b u e => by
  rw [upd_ne (ne_of_none e h)]
  exact a b u e
theorem tups_at {H1 : Hp} {L : Addr} {xs : List V} {o : HO} (h : H1 L = some (.lst xs)) : Tups H1 (upd H1 L o) := fun b ys e => by
  have : b ≠ L := fun q => by rw [q, h] at e; cases e
  rw [upd_ne this]
  exact e
def intAt (σ : St) (i : Nat) : Nat := match σ[i]? with
  | some (some (V.int m)) => m.toNat
  | _ => 0
theorem sz1 : 1 ≤ sizeLine := by decide
section
variable {P : Program} {w : World} {K : PySem.W.Frag} {mg : Str → Option Value} {base : Heap} {aS a1 a2 : Addr} {f : Addr} {fd : FuncData}
end
/-! ## flows' parts -/
def spHalf : Sp := fun vs H Q _ => ∃ bs, vs = [.str (tx bs)] ∧ bs.length ≤ 100000 ∧ Q (.str (tx (halfL bs))) H
def spChanges : Sp := fun vs H Q _ => ∃ bs, vs = [.str (tx bs)] ∧ bs.length ≤ 100000 ∧ ∀ H', Same H H' → Q (.str (tx (chgL false bs))) H'
def spCounts : Sp := fun vs H Q _ => ∃ bs, vs = [.str (tx bs)] ∧ bs.length ≤ 100000 ∧ ∀ H', Same H H' → Q (.str (tx (cntL false bs))) H'
def spTurned : Sp := fun vs H Q _ => ∃ b, vs = [.str (sgn b)] ∧ Q (.str (sgn (!b))) H
section
variable {P : Program} {w : World} {K : PySem.W.Frag} {mg : Str → Option Value} {base : Heap} {aS a1 a2 : Addr} {f : Addr} {fd : FuncData}
end
end FY


set_option Elab.async false
set_option linter.all false
set_option maxRecDepth 100000
set_option maxHeartbeats 4000000
namespace FY
open PySem L2 FYR
abbrev vs (b : Bool) : V := .str (sgn b)
def b2i (b : Bool) : Int := if b then 1 else 0
theorem sg_ne (x y : Bool) : (!decide (V.str ⟨#[cd x]⟩ = V.str ⟨#[cd y]⟩)) = (x != y) := by cases x <;> cases y <;> decide +kernel
theorem sg_eq (x y : Bool) : decide (V.str ⟨#[cd x]⟩ = V.str ⟨#[cd y]⟩) = (x == y) := by cases x <;> cases y <;> decide +kernel
theorem take_one {α β : Type} (f : α → β) {l : List α} {i : Nat} {x : α} (h : l[i]? = some x) : (l.take i).map f ++ [f x] = (l.take (i + 1)).map f := by
  rw [List.take_succ, h]
  simp
theorem chg_get : ∀ (bs : List Bool) (l : Bool) (i : Nat) (x y : Bool), bs[i]? = some x → (l :: bs)[i]? = some y → (chgL l bs)[i]? = some (x != y)
  | [], l, i, x, y, h, _ => by simp at h
  | b :: r, l, 0, x, y, h, h2 => by simp at h h2; subst h; subst h2; simp [chgL]
  | b :: r, l, i + 1, x, y, h, h2 => by
    simp only [List.getElem?_cons_succ] at h h2
    simp only [chgL, List.getElem?_cons_succ]
    exact chg_get r b i x y h h2
theorem cnt_get : ∀ (bs : List Bool) (l : Bool) (i : Nat) (x y : Bool), bs[i]? = some x → (l :: cntL l bs)[i]? = some y → (cntL l bs)[i]? = some (x != y)
  | [], l, i, x, y, h, _ => by simp at h
  | b :: r, l, 0, x, y, h, h2 => by simp at h h2; subst h; subst h2; simp [cntL]
  | b :: r, l, i + 1, x, y, h, h2 => by
    simp only [List.getElem?_cons_succ] at h
    simp only [cntL, List.getElem?_cons_succ] at h2 ⊢
    exact cnt_get r (b != l) i x y h h2
theorem jsum : ∀ bs : List Bool, ((bs.map sgn).map (·.length)).sum = bs.length
  | [] => rfl
  | b :: r => by
    have := jsum r
    simp only [List.map_cons, List.sum_cons, List.length_cons, this]
    have : (sgn b).length = 1 := rfl
    omega
theorem joinEnd {K : PySem.W.Frag} {H : Hp} {D : Addr} {bs : List Bool} {R : VK} (h : H D = some (.lst (bs.map vs))) (hl : bs.length ≤ 100000) (q : R (.str (tx bs)) H) : rJoin K (.str "") [.ref D] H R := by
  refine ⟨"", D, bs.map sgn, rfl, rfl, .inl (SqL.of (by rw [h, List.map_map]; rfl)), ?_, ?_⟩
  · rw [jsum, show ("" : Str).length = 0 from rfl]
    omega
  · rw [se, join_sgn]
    exact q
theorem tx_char {bs : List Bool} {i c : Nat} (h : (tx bs).cps[i]? = some c) : ∃ b, bs[i]? = some b ∧ c = cd b := by
  rw [tx_get] at h
  obtain ⟨b, hb, rfl⟩ := Option.map_eq_some_iff.mp h
  exact ⟨b, hb, rfl⟩
theorem sl640 (c : Nat) : ({ cps := #[c] } : Str).length ≤ 640 := by
  show 1 ≤ 640
  decide
theorem lt_len {α : Type} {l : List α} {i : Nat} {x : α} (h : l[i]? = some x) : i < l.length := (List.getElem?_eq_some_iff.mp h).1
theorem take_len_le {α β : Type} (f : α → β) (l : List α) (i : Nat) (hl : i < 100000) : ((l.take i).map f).length < sizeLine := by
  rw [List.length_map, List.length_take]
  exact Nat.lt_of_lt_of_le (show min i l.length < 100000 by omega) (by decide)
section
variable {P : Program} {w : World} {K : PySem.W.Frag} {mg : Str → Option Value} {base : Heap} {aS a1 a2 : Addr} {f : Addr} {fd : FuncData}
end
theorem flat_dbl : ∀ bs : List Bool, (bs.map fun b => [b, b]).flatten = dblL bs
  | [] => rfl
  | b :: r => by
    have h := flat_dbl r
    simp only [List.map_cons, List.flatten_cons, dblL, ← h]
    rfl
theorem jsumL : ∀ ys : List (List Bool), ((ys.map tx).map (·.length)).sum = ys.flatten.length
  | [] => rfl
  | y :: r => by
    have := jsumL r
    simp only [List.map_cons, List.sum_cons, List.flatten_cons, List.length_append, this, tx_len]
theorem joinEndL {K : PySem.W.Frag} {H : Hp} {D : Addr} {ys : List (List Bool)} {R : VK} (h : H D = some (.lst (ys.map fun y => V.str (tx y)))) (hl : ys.flatten.length ≤ 1000000) (q : R (.str (tx ys.flatten)) H) : rJoin K (.str "") [.ref D] H R := by
  refine ⟨"", D, ys.map tx, rfl, rfl, .inl (SqL.of (by rw [h, List.map_map]; rfl)), ?_, ?_⟩
  · rw [jsumL, show ("" : Str).length = 0 from rfl]
    omega
  · rw [se, join_tx]
    exact q
theorem by_get (a b c d : Bool) : ∀ (f g : List Bool) (i : Nat) (x y : Bool), f[i]? = some x → g[i]? = some y → (byL a b c d f g)[i]? = some (if x then (if y then d else c) else (if y then b else a))
  | [], g, i, x, y, h, _ => by simp at h
  | _ :: _, [], i, x, y, _, h => by simp at h
  | u :: r, v :: s, 0, x, y, h, h2 => by simp at h h2; subst h; subst h2; simp [byL]
  | u :: r, v :: s, i + 1, x, y, h, h2 => by
    simp only [List.getElem?_cons_succ] at h h2
    simp only [byL, List.getElem?_cons_succ]
    exact by_get a b c d r s i x y h h2
theorem by_len (a b c d : Bool) : ∀ (f g : List Bool), (byL a b c d f g).length = min f.length g.length
  | [], g => by simp [byL]
  | _ :: _, [] => by simp [byL]
  | u :: r, v :: s => by
    have := by_len a b c d r s
    simp only [byL, List.length_cons, this]
    omega
theorem keep_snoc : ∀ (f g : List Bool) (i : Nat) (x y : Bool), f[i]? = some x → g[i]? = some y → keepL (f.take (i + 1)) (g.take (i + 1)) = keepL (f.take i) (g.take i) ++ (if y then [x] else [])
  | [], g, i, x, y, h, _ => by simp at h
  | _ :: _, [], i, x, y, _, h => by simp at h
  | u :: r, v :: s, 0, x, y, h, h2 => by simp at h h2; subst h; subst h2; cases v <;> simp [keepL]
  | u :: r, v :: s, i + 1, x, y, h, h2 => by
    simp only [List.getElem?_cons_succ] at h h2
    have := keep_snoc r s i x y h h2
    rw [List.take_succ_cons, List.take_succ_cons, List.take_succ_cons, List.take_succ_cons]
    cases v
    · simp only [keepL]; exact this
    · simp only [keepL, if_true, this]; rfl
theorem keep_all : ∀ (f g : List Bool), keepL (f.take (min f.length g.length)) (g.take (min f.length g.length)) = keepL f g
  | [], g => by simp [keepL]
  | _ :: _, [] => by simp [keepL]
  | u :: r, v :: s => by
    have := keep_all r s
    rw [show min (u :: r).length (v :: s).length = min r.length s.length + 1 by simp only [List.length_cons]; omega, List.take_succ_cons, List.take_succ_cons]
    cases v
    · simp only [keepL]; exact this
    · simp only [keepL, this]
def spOfOne : Sp := fun vs H Q _ => ∃ v t bs, vs = [v, .str (tx bs)] ∧ TA H v t ∧ t.parts.length = 1 ∧ bs.length ≤ 40000 ∧ ∀ H', Same H H' → Q (.str (tx (op1 t bs))) H'
def spOfTwo : Sp := fun vs H Q _ => ∃ v t fs gs, vs = [v, .str (tx fs), .str (tx gs)] ∧ TA H v t ∧ t.parts.length = 2 ∧ t.word ≠ "then" ∧ fs.length ≤ 40000 ∧ ∀ H', Same H H' → Q (.str (tx (op2 t fs gs))) H'
section
variable {P : Program} {w : World} {K : PySem.W.Frag} {mg : Str → Option Value} {base : Heap} {aS a1 a2 : Addr} {f : Addr} {fd : FuncData}
end
end FY


set_option Elab.async false
set_option linter.all false
set_option maxRecDepth 100000
set_option maxHeartbeats 4000000
namespace FY
open PySem L2 FYR
def spFlowBy (n : Nat) : Sp := fun vs H Q _ => ∃ v t bs, vs = [v, .str (tx bs)] ∧ TA H v t ∧ t.nodes ≤ n ∧ t.nodes ≤ 9 ∧ 2 ^ (t.nodes - 1) * bs.length ≤ 8000 ∧ ∀ H', Same H H' → Q (.str (tx (flow t bs))) H'
def spFlowOf : Sp := fun vs H Q _ => ∃ v t bs, vs = [v, .str (tx bs)] ∧ TA H v t ∧ t.nodes ≤ 9 ∧ bs.length ≤ 1000 ∧ 2 ^ (t.nodes - 1) * bs.length ≤ 8000 ∧ ∀ H', Same H H' → Q (.str (tx (flow t bs))) H'
theorem pow_le {a b n : Nat} (h : a ≤ b) (hb : 2 ^ b * n ≤ 8000) : 2 ^ a * n ≤ 8000 := Nat.le_trans (Nat.mul_le_mul_right n (Nat.pow_le_pow_right (by decide) h)) hb
theorem thn_le {t u : Tm} {bs : List Bool} (hb : 2 ^ (t.nodes + u.nodes + 1 - 1) * bs.length ≤ 8000) : 2 ^ (u.nodes - 1) * (flow t bs).length ≤ 8000 := by
  have h1 := flow_len t bs
  have h3 := t.nodes_pos
  have h4 := u.nodes_pos
  have e1 := Nat.mul_le_mul_left (2 ^ (u.nodes - 1)) h1
  rw [← Nat.mul_assoc, ← Nat.pow_add] at e1
  exact Nat.le_trans e1 (pow_le (by omega) hb)
theorem flow_8000 {t : Tm} {bs : List Bool} (hb : 2 ^ (t.nodes - 1) * bs.length ≤ 8000) : (flow t bs).length ≤ 8000 := Nat.le_trans (flow_len t bs) hb
theorem flow_op1 (t : Tm) (bs : List Bool) (u : Tm) (h : t.parts = [u]) : flow t bs = op1 t (flow u bs) := by
  cases t <;> simp [Tm.parts] at h <;> subst h <;> rfl
theorem flow_op2 (t : Tm) (bs : List Bool) (u v : Tm) (h : t.parts = [u, v]) (hw : t.word ≠ "then") : flow t bs = op2 t (flow u bs) (flow v bs) := by
  cases t <;> simp [Tm.parts] at h
  · obtain ⟨rfl, rfl⟩ := h; rfl
  · obtain ⟨rfl, rfl⟩ := h; rfl
  · exact absurd rfl hw
theorem parts_two (t : Tm) (h : t.isIn = false) : (∃ u, t.parts = [u]) ∨ ∃ u v, t.parts = [u, v] := by
  cases t with
  | inn => cases h
  | one _ _ => exact .inl ⟨_, rfl⟩
  | late _ _ => exact .inl ⟨_, rfl⟩
  | _ => exact .inr ⟨_, _, rfl⟩
theorem parts_nodes {t u : Tm} (h : u ∈ t.parts) : u.nodes + 1 ≤ t.nodes := by
  have := sumN_parts t
  have := sumN_mem _ _ h
  omega
theorem paired_get {α β : Type} {R : α → β → Prop} {a : List α} {b : List β} (h : Paired R a b) {i : Nat} {x : α} (hx : a[i]? = some x) : ∃ y, b[i]? = some y ∧ R x y := by
  induction h generalizing i with
  | nil => simp at hx
  | cons r q ih =>
    cases i with
    | zero => simp at hx; subst hx; exact ⟨_, rfl, r⟩
    | succ i => exact ih hx
def Tm.isThn : Tm → Bool | .thn _ _ => true | _ => false
theorem word_then (t : Tm) : decide (V.str t.word = V.str "then") = t.isThn := by
  cases t with
  | one w t => 
    cases w with
    | no => exact (by decide +kernel : decide (V.str ("not" : Str) = V.str ("then" : Str)) = false)
    | twice => exact (by decide +kernel : decide (V.str ("twice" : Str) = V.str ("then" : Str)) = false)
    | half => exact (by decide +kernel : decide (V.str ("half" : Str) = V.str ("then" : Str)) = false)
    | change => exact (by decide +kernel : decide (V.str ("change" : Str) = V.str ("then" : Str)) = false)
    | count => exact (by decide +kernel : decide (V.str ("count" : Str) = V.str ("then" : Str)) = false)
  | inn => exact (by decide +kernel : decide (V.str ("in" : Str) = V.str ("then" : Str)) = false)
  | late _ _ => exact (by decide +kernel : decide (V.str ("late" : Str) = V.str ("then" : Str)) = false)
  | byy _ _ _ _ _ _ => exact (by decide +kernel : decide (V.str ("by" : Str) = V.str ("then" : Str)) = false)
  | keep _ _ => exact (by decide +kernel : decide (V.str ("keep" : Str) = V.str ("then" : Str)) = false)
  | thn _ _ => exact (by decide +kernel : decide (V.str ("then" : Str) = V.str ("then" : Str)) = true)
theorem at0 {α : Type} {x : α} {xs : List α} : atI (x :: xs) 0 = some x := by
  unfold atI ixN
  simp
section
variable {P : Program} {w : World} {K : PySem.W.Frag} {mg : Str → Option Value} {base : Heap} {aS a1 a2 : Addr} {f : Addr} {fd : FuncData}
end
end FY


set_option Elab.async false
set_option linter.all false
set_option maxRecDepth 100000
set_option maxHeartbeats 4000000
namespace FY
open PySem L2 FYR
theorem hu1 {k : Nat} {A : Around} (r : Room k A) : A.units + 1 < cLine := by have := r.units; omega
theorem sg_ne' (x y : Bool) : (!decide (V.str ⟨#[cd x]⟩ = V.str (sgn y))) = (x != y) := sg_ne x y
theorem upd_upd {H : Hp} {p : Addr} {o o' : HO} : upd (upd H p o) p o' = upd H p o' := by
  funext b
  by_cases h : b = p
  · rw [h, upd_same, upd_same]
  · rw [upd_ne h, upd_ne h, upd_ne h]
section
variable {P : Program} {w : World} {K : PySem.W.Frag} {mg : Str → Option Value} {base : Heap} {aS a1 a2 : Addr} {f : Addr} {fd : FuncData}
end
end FY


set_option Elab.async false
set_option linter.all false
set_option maxRecDepth 100000
set_option maxHeartbeats 4000000
namespace FY
open PySem L2 FYR
def spFlowL (n : Nat) : Sp := fun vs H Q _ => ∃ v t bs, vs = [v, .str (tx bs)] ∧ TA H v t ∧ t.nodes ≤ n ∧ t.nodes ≤ 40 ∧ 2 ^ (t.nodes - 1) * bs.length ≤ 40000 ∧ ∀ H', Same H H' → Q (.str (tx (flow t bs))) H'
theorem powL {a b n : Nat} (h : a ≤ b) (hb : 2 ^ b * n ≤ 40000) : 2 ^ a * n ≤ 40000 := Nat.le_trans (Nat.mul_le_mul_right n (Nat.pow_le_pow_right (by decide) h)) hb
theorem thnL {t u : Tm} {bs : List Bool} (hb : 2 ^ (t.nodes + u.nodes + 1 - 1) * bs.length ≤ 40000) : 2 ^ (u.nodes - 1) * (flow t bs).length ≤ 40000 := by
  have h1 := flow_len t bs
  have h3 := t.nodes_pos
  have h4 := u.nodes_pos
  have e1 := Nat.mul_le_mul_left (2 ^ (u.nodes - 1)) h1
  rw [← Nat.mul_assoc, ← Nat.pow_add] at e1
  exact Nat.le_trans e1 (powL (by omega) hb)
theorem flowL {t : Tm} {bs : List Bool} (hb : 2 ^ (t.nodes - 1) * bs.length ≤ 40000) : (flow t bs).length ≤ 40000 := Nat.le_trans (flow_len t bs) hb
theorem sz2 {a b : V} : [a, b].length ≤ sizeLine := (by decide : 2 ≤ sizeLine)
theorem oNw (w : W1) : (if true = true then !inV (.str w.s) [.str "by", .str "keep"] else inV (.str w.s) [.str "by", .str "keep"]) = true := by cases w <;> decide +kernel
theorem oNl : (if true = true then !inV (.str "late") [.str "by", .str "keep"] else inV (.str "late") [.str "by", .str "keep"]) = true := by decide +kernel
theorem oNb : (if true = true then !inV (.str "by") [.str "by", .str "keep"] else inV (.str "by") [.str "by", .str "keep"]) = false := by decide +kernel
theorem oNk : (if true = true then !inV (.str "keep") [.str "by", .str "keep"] else inV (.str "keep") [.str "by", .str "keep"]) = false := by decide +kernel
theorem _root_.List.getElem?_map_some {α β : Type} {f : α → β} {l : List α} {i : Nat} {y : β} (h : (l.map f)[i]? = some y) : ∃ x, l[i]? = some x ∧ y = f x := by
  rw [List.getElem?_map] at h
  obtain ⟨x, hx, rfl⟩ := Option.map_eq_some_iff.mp h
  exact ⟨x, hx, rfl⟩
theorem zipV_get {f g : List Bool} {i : Nat} {q : V × V} (h : (zipV (tx f) (tx g))[i]? = some q) : ∃ x y, f[i]? = some x ∧ g[i]? = some y ∧ q = (.str ⟨#[cd x]⟩, .str ⟨#[cd y]⟩) := by
  unfold zipV at h
  obtain ⟨p, hp, rfl⟩ := List.getElem?_map_some h
  rw [tx_toList, tx_toList, List.getElem?_zip_eq_some] at hp
  obtain ⟨h1, h2⟩ := hp
  obtain ⟨x, hx, e1⟩ := List.getElem?_map_some h1
  obtain ⟨y, hy, e2⟩ := List.getElem?_map_some h2
  exact ⟨x, y, hx, hy, by rw [e1, e2]; rfl⟩
section
variable {P : Program} {w : World} {K : PySem.W.Frag} {mg : Str → Option Value} {base : Heap} {aS a1 a2 : Addr} {f : Addr} {fd : FuncData}
end
def spNodes (n : Nat) : Sp := fun vs H Q _ => ∃ v t, vs = [v] ∧ TA H v t ∧ t.dep ≤ n ∧ t.dep ≤ 60 ∧ ∀ H', Same H H' → Q (.int t.nodes) H'
theorem extra_not (t : Tm) (z : Str) (h : z ∈ t.extra) : PyData.eqv (.str z) (.str "in") = false ∧ SeqAt.shaped (.str z) = true := by
  cases t with
  | late b t =>
    simp [Tm.extra] at h
    subst h
    cases b <;> exact ⟨by decide +kernel, by decide +kernel⟩
  | byy a b c d t u =>
    simp [Tm.extra] at h
    subst h
    cases a <;> cases b <;> cases c <;> cases d <;> exact ⟨by decide +kernel, by decide +kernel⟩
  | _ => simp [Tm.extra] at h
theorem cut1 (x : V) (xs : List V) : cutV (x :: xs) (some 1) none = xs := by
  unfold cutV
  rw [HT.sIx_none, show HT.sIx (x :: xs).length 0 (some 1) = 1 by
    have := HT.sIx_nat (x :: xs).length 0 1
    simp only [List.length_cons] at this ⊢
    rw [show ((1 : Nat) : Int) = 1 from rfl] at this
    rw [this]; omega]
  simp
theorem nwh (x : V) (xs : List V) {p : Prop} : ¬ (HT.sIx (x :: xs).length 0 (some 1) = 0 ∧ p) := by
  have := HT.sIx_nat (x :: xs).length 0 1
  rw [show ((1 : Nat) : Int) = 1 from rfl] at this
  rw [this]
  simp only [List.length_cons]
  omega
theorem extra_le (t : Tm) : t.extra.length ≤ 1 := by cases t <;> simp [Tm.extra]
theorem sum_nodes : ∀ ts : List Tm, (ts.map fun t => (t.nodes : Int)).sum = sumN ts
  | [] => rfl
  | t :: r => by simp [sumN, sum_nodes r]
section
variable {P : Program} {w : World} {K : PySem.W.Frag} {mg : Str → Option Value} {base : Heap} {aS a1 a2 : Addr} {f : Addr} {fd : FuncData}
end
end FY


set_option Elab.async false
set_option linter.all false
set_option maxRecDepth 100000
set_option maxHeartbeats 4000000
namespace FY
open PySem L2 FYR
/-- all but p stays -/
def Kp (p : Addr) (H H' : Hp) : Prop := ∀ b o, b ≠ p → H b = some o → H' b = some o
def Pot (p : Addr) (H : Hp) : Prop := ∃ a b : Int, H p = some (.lst [.int a, .int b]) ∧ 0 ≤ a ∧ 0 ≤ b ∧ b < 2147483647
theorem Kp.refl (p : Addr) (H : Hp) : Kp p H H := fun _ _ _ h => h
theorem Kp.trans {p : Addr} {H H1 H2 : Hp} (a : Kp p H H1) (b : Kp p H1 H2) : Kp p H H2 := fun x o n e => b x o n (a x o n e)
theorem Kp.of {p : Addr} {H H' : Hp} (s : Same H H') : Kp p H H' := fun b o _ e => s b o e
theorem Pot.tups {p : Addr} {H H' : Hp} (a : Pot p H) (k : Kp p H H') : Tups H H' := fun b xs e => by
  obtain ⟨_, _, h, _⟩ := a
  refine k b _ (fun z => ?_) e
  rw [z, h] at e
  cases e
theorem Pot.same {p : Addr} {H H' : Hp} (a : Pot p H) (s : Same H H') : Pot p H' := by
  obtain ⟨x, y, h, r⟩ := a
  exact ⟨x, y, s _ _ h, r⟩
theorem Pot.ne {p q : Addr} {H : Hp} (a : Pot p H) (h : H q = none) : q ≠ p := fun z => by
  obtain ⟨_, _, e, _⟩ := a
  rw [z, e] at h
  cases h
theorem kp_new {p q : Addr} {H : Hp} (h : H q = none) (o : HO) : Kp p H (upd H q o) := Kp.of (same_new h o)
theorem kp_upd {p : Addr} {H : Hp} (o : HO) : Kp p H (upd H p o) := fun b u n e => by rw [upd_ne n]; exact e
def spDraw : Sp := fun vs H Q _ => ∃ p n, vs = [.ref p, .int n] ∧ Pot p H ∧ 0 < n ∧ n < 1073741824 ∧ ∀ (d : Int) (H' : Hp), 0 ≤ d → d < n → Kp p H H' → Pot p H' → Q (.int d) H'
def spPick : Sp := fun vs H Q _ => ∃ p L xs, vs = [.ref p, .ref L] ∧ Pot p H ∧ L ≠ p ∧ H L = some (.lst xs) ∧ 0 < xs.length ∧ xs.length ≤ 100 ∧ ∀ (x : V) (H' : Hp), x ∈ xs → Kp p H H' → Pot p H' → Q x H'
def spTerm (n : Nat) : Sp := fun vs H Q _ => ∃ p m, vs = [.ref p, .int m] ∧ Pot p H ∧ 1 ≤ m ∧ m ≤ n ∧ n ≤ 1000 ∧ ∀ (v : V) (t : Tm) (H' : Hp), TA H' v t → (t.nodes : Int) ≤ m → Kp p H H' → Pot p H' → Q v H'
def spStream : Sp := fun vs H Q _ => ∃ p m, vs = [.ref p, .int m] ∧ Pot p H ∧ 0 ≤ m ∧ m ≤ 1000 ∧ ∀ (bs : List Bool) (H' : Hp), (bs.length : Int) ≤ m → Kp p H H' → Pot p H' → Q (.str (tx bs)) H'
def spAround : Sp := fun vs H Q _ => ∃ p v t, vs = [.ref p, v] ∧ Pot p H ∧ TA H v t ∧ ∀ (v' : V) (t' : Tm) (H' : Hp), TA H' v' t' → t'.nodes ≤ t.nodes + 3 → Kp p H H' → Pot p H' → Q v' H'
theorem atI_mem {xs : List V} {d : Int} (h0 : 0 ≤ d) (h1 : d < xs.length) : ∃ x, atI xs d = some x ∧ x ∈ xs := by
  have hl : d.toNat < xs.length := by omega
  refine ⟨xs[d.toNat], ?_, List.getElem_mem hl⟩
  unfold atI ixN
  rw [if_pos h0, if_pos h1]
  show xs[d.toNat]? = _
  rw [List.getElem?_eq_getElem hl]
theorem em_lt (x : Int) {m b : Int} (h : 0 < m) (hm : m ≤ b) : x % m < b := Int.lt_of_lt_of_le (Int.emod_lt_of_pos x h) hm
theorem em_mul (x : Int) {m : Int} (h : 0 < m) (hm : m ≤ 2147483647) : -2 ^ 64 < x % m ∧ x % m < 2 ^ 64 := ⟨by have := Int.emod_nonneg x (show m ≠ 0 by omega); omega, em_lt x h (by omega)⟩
theorem em_p1 (x : Int) {m : Int} (h : 0 < m) : 0 ≤ x % m + 1 := by have := Int.emod_nonneg x (show m ≠ 0 by omega); omega
theorem em_b1 (x : Int) {m b : Int} (h : 0 < m) (hm : m + 1 ≤ b) : x % m + 1 < b := by have := Int.emod_lt_of_pos x h; omega
section
variable {P : Program} {w : World} {K : PySem.W.Frag} {mg : Str → Option Value} {base : Heap} {aS a1 a2 : Addr} {f : Addr} {fd : FuncData}
abbrev s_law_draw : Stmt := top 29
abbrev N_law_draw : List Str := ["_law_pot_here", "_law_many", "_law_digit"]
theorem sc_law_draw : FnScope N_law_draw ["_law_pot_here", "_law_many"] (defScope s_law_draw) := ⟨rfl, rfl, rfl, by decide +kernel, rfl, by decide +kernel, by decide +kernel⟩
theorem ok_law_draw (F : Fun K "_law_draw" "_law_draw" s_law_draw f fd) (T : Txt K mg aS a1 a2) : FnOk P w K mg base CX0 1 f fd ["_law_pot_here", "_law_many"] spDraw := by
  refine F.ok sc_law_draw (fun vs H Q E h => ?_) (fun cdv A outer s H vs Q E hr h => ?_)
  · obtain ⟨p, n, rfl, _⟩ := h
    rfl
  obtain ⟨p, n, rfl, ⟨a, b, hp, ha, hb0, hb1⟩, hn0, hn1, q⟩ := h
  refine ⟨_, (pss_cons (ps_if (pt_cmpR op_gt (pe_ix (kIxL K rfl) (pv 0) pe_int (fun _ _ => rfl)) pe_int (nomark _))
        (pss_cons (ps_asg (pe_callB call_divmodW rfl T.b_divmod bt_divmod (pa_cons (pe_ix (kIxL K rfl) (pv 0) pe_int (fun _ _ => rfl)) (pa_cons (pv 1) pa_nil))) (kTupG (n := 2) K rfl rfl (pgs_cons (pg_sub (pv 0) pe_int set_list) (pgs_cons (pg_name (i := 2) sc_law_draw.nd rfl (Or.inl rfl)) pgs_nil))))
        (pss_one (ps_ret (pv 2))))
        pss_nil)
        (pss_cons (ps_asg (pe_op op_mod (pe_callTy call_int1 rfl T.b_int bt_int (pa_cons (pe_op op_add (pe_op op_mul (pe_ix (kIxL K rfl) (pv 0) pe_int (fun _ _ => rfl)) pe_int) pe_int) pa_nil)) pe_int) (pg_sub (pv 0) pe_int set_list))
        (pss_one (ps_ret (pe_op op_mod (pe_callTy call_int1 rfl T.b_int bt_int (pa_cons (pe_op op_fdiv (pe_op op_mod (pe_callTy call_int1 rfl T.b_int bt_int (pa_cons (pe_op op_mul (pe_ix (kIxL K rfl) (pv 0) pe_int (fun _ _ => rfl)) (pe_ix (kIxL K rfl) (pv 0) pe_int (fun _ _ => rfl))) pa_nil)) pe_int) pe_int) pa_nil)) (pv 1)))))), ?_⟩
  refine ⟨_, rfl, _, _, _, _, rfl, rfl, SqL.of hp, rfl, _, _, rfl, rfl, _, rfl, ?_⟩
  by_cases h0 : 0 < a
  · refine iteTd (by simpa using h0) ?_
    refine ⟨_, rfl, _, _, _, _, rfl, rfl, SqL.of hp, rfl, _, rfl, _, _, rfl, ⟨hn0, PyProof.noPylong_small (by omega)⟩, fun T0 hT => ?_⟩
    have hne : p ≠ T0 := fun z => by rw [← z, hp] at hT; cases hT
    refine ⟨_, _, rfl, SqT.of upd_same, rfl, _, _, rfl, _, rfl, _, _, _, _, rfl, rfl, (upd_ne hne).trans hp, rfl, _, _, rfl, rfl, _, rfl, ?_⟩
    refine q _ _ (Int.emod_nonneg _ (by omega)) (Int.emod_lt_of_pos _ hn0) ((kp_new hT _).trans (kp_upd _)) ⟨_, _, upd_same, Int.ediv_nonneg ha (by omega), hb0, hb1⟩
  · refine iteFd (by simpa using h0) ?_
    refine ⟨_, rfl, _, _, _, _, rfl, rfl, SqL.of hp, rfl, _, _, rfl, rfl, .inr (by decide), _, _, rfl, rfl, .inl ⟨_, rfl, _, _, rfl, rfl, (by dsimp only; decide), _, rfl, _, _, _, _, rfl, rfl, hp, rfl, ?_⟩⟩
    refine ⟨_, rfl, _, _, _, _, rfl, rfl, SqL.of upd_same, rfl, _, rfl, _, _, _, _, rfl, rfl, SqL.of upd_same, rfl, _, _, rfl, rfl, .inl ?_, .inl ⟨_, rfl, _, _, rfl, rfl, (by dsimp only; decide), _, _, rfl, rfl, ⟨by decide, by decide⟩, .inl ⟨_, rfl, _, rfl, _, _, rfl, rfl, hn0, ?_⟩⟩⟩
    · exact em_mul _ (by decide) (by decide)
    · exact q _ _ (Int.emod_nonneg _ (by omega)) (Int.emod_lt_of_pos _ hn0) (kp_upd _) ⟨_, _, upd_same, ha, Int.emod_nonneg _ (by decide), em_lt _ (by decide) (by decide)⟩
abbrev s_law_pick : Stmt := top 30
abbrev N_law_pick : List Str := ["_law_pot_here", "_law_some"]
theorem sc_law_pick : FnScope N_law_pick ["_law_pot_here", "_law_some"] (defScope s_law_pick) := ⟨rfl, rfl, rfl, by decide +kernel, rfl, by decide +kernel, by decide +kernel⟩
theorem ok_law_pick (F : Fun K "_law_pick" "_law_pick" s_law_pick f fd) (T : Txt K mg aS a1 a2) (c__law_draw : C8.Cal P w K mg base 1 "_law_draw" spDraw []) : FnOk P w K mg base CX0 2 f fd ["_law_pot_here", "_law_some"] spPick := by
  refine F.ok sc_law_pick (fun vs H Q E h => ?_) (fun cdv A outer s H vs Q E hr h => ?_)
  · obtain ⟨p, n, xs, rfl, _⟩ := h
    rfl
  obtain ⟨p, L, xs, rfl, hp, hne, hL, h0, h1, q⟩ := h
  refine ⟨_, (pss_one (ps_ret (pe_ix (kIxL K rfl) (pv 1) (C8.pe_c c__law_draw hr (by decide) rfl (pa_cons (pv 0) (pa_cons (pe_callB (kLen K rfl) rfl T.b_len bt_len (pa_cons (pv 1) pa_nil)) pa_nil))) (fun _ _ => rfl)))), ?_⟩
  refine ⟨_, rfl, _, rfl, _, rfl, _, _, rfl, .inl (SqL.of hL), p, _, rfl, hp, by omega, by omega, fun d H' d0 d1 k pt => ?_⟩
  obtain ⟨x, hx, hm⟩ := atI_mem d0 d1
  exact ⟨_, _, _, x, rfl, rfl, SqL.of (k _ _ hne hL), hx, q _ _ hm k pt⟩
end
end FY


set_option Elab.async false
set_option linter.all false
set_option maxRecDepth 100000
set_option maxHeartbeats 4000000
namespace FY
open PySem PySem.Spec PyProof.Rows L2 FYR
/-! ### any value, told as data: it may hold empty dicts -/
mutual
inductive Tv (p : Addr) (H : Hp) : V → PyData → Prop
  | non : Tv p H .non .none
  | bl (b : Bool) : Tv p H (.bl b) (.bool b)
  | int (i : Int) : Tv p H (.int i) (.int i)
  | str (x : Str) : Tv p H (.str x) (.str x)
  | lst {a : Addr} {xs : List V} {ds : List PyData} : a ≠ p → H a = some (.lst xs) → TvAll p H xs ds → Tv p H (.ref a) (.list ds)
  | tup {a : Addr} {xs : List V} {ds : List PyData} : a ≠ p → H a = some (.tup xs) → TvAll p H xs ds → Tv p H (.ref a) (.tuple ds)
  | dic {a : Addr} : a ≠ p → H a = some (.dK []) → Tv p H (.ref a) (.dict [])
  | dcI {a : Addr} {kvs : List (Key × V)} {kd : List (PyData × PyData)} : a ≠ p → H a = some (.dK kvs) → TvKv p H kvs kd → Tv p H (.ref a) (.dict kd)
inductive TvAll (p : Addr) (H : Hp) : List V → List PyData → Prop
  | nil : TvAll p H [] []
  | cons {v : V} {vs : List V} {d : PyData} {ds : List PyData} : Tv p H v d → TvAll p H vs ds → TvAll p H (v :: vs) (d :: ds)
/-- entries whose keys are numbers -/
inductive TvKv (p : Addr) (H : Hp) : List (Key × V) → List (PyData × PyData) → Prop
  | nil : TvKv p H [] []
  | cons {i : Int} {v : V} {vs : List (Key × V)} {d : PyData} {ds : List (PyData × PyData)} : Tv p H v d → TvKv p H vs ds → TvKv p H ((.inl i, v) :: vs) ((.int i, d) :: ds)
end
mutual
theorem Tv.kp {p : Addr} {H H' : Hp} (k : Kp p H H') : ∀ (d : PyData) {v : V}, Tv p H v d → Tv p H' v d
  | .none, _, h => by cases h; exact .non
  | .bool b, _, h => by cases h; exact .bl _
  | .int i, _, h => by cases h; exact .int _
  | .str x, _, h => by cases h; exact .str _
  | .list ds, _, h => by
    cases h with
    | lst n e r => exact .lst n (k _ _ n e) (TvAll.kp k ds r)
  | .tuple ds, _, h => by
    cases h with
    | tup n e r => exact .tup n (k _ _ n e) (TvAll.kp k ds r)
  | .dict kv, _, h => by
    cases h with
    | dic n e => exact .dic n (k _ _ n e)
    | dcI n e r => exact .dcI n (k _ _ n e) (TvKv.kp k kv r)
theorem TvAll.kp {p : Addr} {H H' : Hp} (k : Kp p H H') : ∀ (ds : List PyData) {vs : List V}, TvAll p H vs ds → TvAll p H' vs ds
  | [], _, h => by cases h; exact .nil
  | d :: ds, _, h => by
    cases h with
    | cons a b => exact .cons (Tv.kp k d a) (TvAll.kp k ds b)
theorem TvKv.kp {p : Addr} {H H' : Hp} (k : Kp p H H') : ∀ (ds : List (PyData × PyData)) {vs : List (Key × V)}, TvKv p H vs ds → TvKv p H' vs ds
  | [], _, h => by cases h; exact .nil
  | (_, d) :: ds, _, h => by
    cases h with
    | cons a b => exact .cons (Tv.kp k d a) (TvKv.kp k ds b)
end
theorem kp_same {p : Addr} {H H' : Hp} (s : Same H H') : Kp p H H' := fun b o _ e => s b o e
theorem Tv.same {p : Addr} {H H' : Hp} (s : Same H H') {d : PyData} {v : V} (h : Tv p H v d) : Tv p H' v d := h.kp (kp_same s) d
theorem TvAll.same {p : Addr} {H H' : Hp} (s : Same H H') {ds : List PyData} {vs : List V} (h : TvAll p H vs ds) : TvAll p H' vs ds := h.kp (kp_same s) ds
theorem TvAll.len {p : Addr} {H : Hp} : ∀ {vs : List V} {ds : List PyData}, TvAll p H vs ds → vs.length = ds.length
  | _, [], h => by cases h; rfl
  | _, d :: ds, h => by
    cases h with
    | cons a b => rw [List.length_cons, List.length_cons, b.len]
theorem TvAll.at {p : Addr} {H : Hp} : ∀ {vs : List V} {ds : List PyData} {i : Nat} {v : V}, TvAll p H vs ds → vs[i]? = some v → ∃ d, ds[i]? = some d ∧ Tv p H v d
  | _, [], i, v, h, e => by cases h; simp at e
  | _, d :: ds, i, v, h, e => by
    cases h with
    | cons a b =>
      cases i with
      | zero => simp at e; subst e; exact ⟨d, rfl, a⟩
      | succ i => exact TvAll.at (ds := ds) b (by simpa using e)
theorem TvAll.app {p : Addr} {H : Hp} : ∀ {vs : List V} {ds : List PyData} {us : List V} {es : List PyData}, TvAll p H vs ds → TvAll p H us es → TvAll p H (vs ++ us) (ds ++ es)
  | _, [], _, _, h, g => by cases h; exact g
  | _, d :: ds, _, _, h, g => by
    cases h with
    | cons a b => exact .cons a (b.app g)
theorem TvAll.drop {p : Addr} {H : Hp} : ∀ {vs : List V} {ds : List PyData} (k : Nat), TvAll p H vs ds → TvAll p H (vs.drop k) (ds.drop k)
  | _, _, 0, h => h
  | _, [], k + 1, h => by cases h; exact .nil
  | _, d :: ds, k + 1, h => by
    cases h with
    | cons a b => exact b.drop k
theorem TvAll.take {p : Addr} {H : Hp} : ∀ {vs : List V} {ds : List PyData} (k : Nat), TvAll p H vs ds → TvAll p H (vs.take k) (ds.take k)
  | _, _, 0, h => .nil
  | _, [], k + 1, h => by cases h; exact .nil
  | _, d :: ds, k + 1, h => by
    cases h with
    | cons a b => exact .cons a (b.take k)
theorem TvAll.rev {p : Addr} {H : Hp} : ∀ {vs : List V} {ds : List PyData}, TvAll p H vs ds → TvAll p H vs.reverse ds.reverse
  | _, [], h => by cases h; exact .nil
  | _, d :: ds, h => by
    cases h with
    | cons a b =>
      rw [List.reverse_cons, List.reverse_cons]
      exact b.rev.app (.cons a .nil)
/-- the class of a value -/
def tyN : PyData → String
  | .none => "NoneType"
  | .bool _ => "bool"
  | .int _ => "int"
  | .str _ => "str"
  | .list _ => "list"
  | .tuple _ => "tuple"
  | .dict _ => "dict"
theorem Tv.ty {K : PySem.W.Frag} {p : Addr} {H : Hp} {d : PyData} {v : V} (h : Tv p H v d) : TyX K H v (.type (tyN d)) := by
  cases h with
  | non => exact .base .non
  | bl b => exact .base (.bl b)
  | int i => exact .base (.int i)
  | str x => exact .base (.str x)
  | lst n e r => exact .base (.lst e)
  | tup n e r => exact .base (.tup e)
  | dic n e => exact .base (.dK e)
  | dcI n e r => exact .base (.dK e)
def isTupD : PyData → Bool
  | .tuple _ => true
  | _ => false
def isSeqD : PyData → Bool
  | .tuple _ => true
  | .list _ => true
  | _ => false
def isStrD : PyData → Bool
  | .str _ => true
  | _ => false
def isIntD : PyData → Bool
  | .int _ => true
  | .bool _ => true
  | _ => false
def isBoolD : PyData → Bool
  | .bool _ => true
  | _ => false
theorem kit_tup {K : PySem.W.Frag} (d : PyData) : PySem.W.kitOne K (.type (tyN d)) (.type "tuple") = some (isTupD d) := by cases d <;> exact kit_ty (by first | rfl | decide +kernel)
theorem kit_str {K : PySem.W.Frag} (d : PyData) : PySem.W.kitOne K (.type (tyN d)) (.type "str") = some (isStrD d) := by cases d <;> exact kit_ty (by first | rfl | decide +kernel)
theorem kit_int {K : PySem.W.Frag} (d : PyData) : PySem.W.kitOne K (.type (tyN d)) (.type "int") = some (isIntD d) := by cases d <;> exact kit_ty (by first | rfl | decide +kernel)
theorem kit_bool {K : PySem.W.Frag} (d : PyData) : PySem.W.kitOne K (.type (tyN d)) (.type "bool") = some (isBoolD d) := by cases d <;> exact kit_ty (by first | rfl | decide +kernel)
def isLstD : PyData → Bool
  | .list _ => true
  | _ => false
theorem kit_lst {K : PySem.W.Frag} (d : PyData) : PySem.W.kitOne K (.type (tyN d)) (.type "list") = some (isLstD d) := by cases d <;> exact kit_ty (by first | rfl | decide +kernel)
theorem kit_seq {K : PySem.W.Frag} (d : PyData) : PySem.W.kitAny K (.type (tyN d)) [.type "list", .type "tuple"] = some (isSeqD d) := by
  refine kitAny_cons (kit_lst d) (fun h => kitAny_cons (kit_tup d) (fun h2 => ?_) fun h2 => ?_) fun h => ?_
  · cases d with
    | list _ => cases h
    | tuple _ => cases h2
    | _ => exact kitAny_nil
  · cases d with
    | tuple _ => rfl
    | _ => cases h2
  · cases d with
    | list _ => rfl
    | _ => cases h
/-- a thing: a value, or a dict with rests as keys -/
def TyY (K : PySem.W.Frag) (w : World) (H : Hp) (x : V) (t : Value) : Prop := TyX K H x t ∨ ∃ a kvs, x = .ref a ∧ ND w H a kvs ∧ t = .type "dict"
def rIsiTN (K : PySem.W.Frag) (w : World) : List V → Hp → VK → Prop := fun xs H Q => ∃ (x : V) (tp : Addr) (cs : List V) (t : Value) (us : List Value) (b : Bool), xs = [x, .ref tp] ∧ H tp = some (.tup cs) ∧ Paired ClsV cs us ∧ TyY K w H x t ∧ PySem.W.kitAny K t us = some b ∧ Q (.bl b) H
section
variable {X : Cx} {pins : List (Addr × Obj)} {σ : L2.St} {H : Hp} {s : Shared}
theorem kit_ofN {x : V} {u t : Value} (I : Inv X pins σ H s) (rx : RelV x u) (ty : TyY X.K X.w H x t) : ∃ P : Heap → Prop, PySem.W.KitX X.K u t P ∧ P s.heap ∧ u ≠ .builtin "__main__.__loader__#opaque" := by
  rcases ty with ty | ⟨a, kvs, rfl, ⟨ys, e, _⟩, rfl⟩
  · exact kit_of I rx ty
  · cases (show u = Value.ref a from rx)
    obtain ⟨⟨_, o, es, ep, h1, h2, _⟩, _, _⟩ := (show ObjOk X.prog X.w H s.heap a (NO X.w a ys) from I.hok a _ e)
    exact ⟨_, PySem.W.kitx_dict, ⟨o, h1, h2.1⟩, fun z => nomatch z⟩
end
theorem kIsiTN {X : Cx} (K : PySem.W.Frag) (w : World) (hK : X.K = K) (hw : X.w = w) : CallR X (.builtin "isinstance") (rIsiTN K w) := by
  subst hK hw
  intro pins s σ H xs us Q I r h
  obtain ⟨x, tp, cs, t, ws, b, rfl, hT, k, ty, e, q⟩ := h
  obtain ⟨u1, u2, rfl, r1, r2⟩ := vals2 r
  cases (show u2 = Value.ref tp from r2)
  obtain ⟨P, Z, p, hx⟩ := kit_ofN I r1 ty
  obtain ⟨_, its, rv, o, h1, h2, n, h3⟩ := (show ObjOk X.prog X.w H s.heap tp (.tup cs) from I.hok tp _ hT)
  have e3 := ClsV.all k rv
  subst e3
  obtain ⟨oc, od, dt, sl⟩ := o
  simp only at h2 h3
  subst h2 h3
  exact PySem.W.kia_tup Z I.kIn p h1 e hx fun tk => ⟨.bl b, H, I.tok tk, rfl, q⟩
/-! ### repr -/
theorem rdE {h : Heap} {u v : Value} {d : PyData} {as : List Addr} (e : u = v) (r : Reads h v d as) : Reads h u d as := by rw [e]; exact r
section
variable {X : Cx} {pins : List (Addr × Obj)} {σ : L2.St} {H : Hp} {s : Shared} {p : Addr}
mutual
theorem Tv.reads (I : Inv X pins σ H s) : ∀ (d : PyData) (v : V) (u : Value), Tv p H v d → RelV v u → ∃ as, Reads s.heap u d as ∧ ∀ a ∈ as, H a ≠ none
  | .none, _, _, h, r => by
    cases h; cases r
    exact ⟨_, Reads.none, by simp⟩
  | .bool b, _, _, h, r => by
    cases h; cases r
    exact ⟨_, Reads.bool b, by simp⟩
  | .int i, _, _, h, r => by
    cases h
    obtain ⟨t, rfl⟩ := r
    exact ⟨_, Reads.int i t, by simp⟩
  | .str x, _, _, h, r => by
    cases h
    obtain ⟨t, rfl⟩ := r
    exact ⟨_, Reads.str x t, by simp⟩
  | .list ds, _, _, h, r => by
    cases h with
    | lst n hs ha =>
      cases r
      obtain ⟨its, rv, ⟨o, m, ho, hc, _, hd⟩, _⟩ := I.list (SqL.of hs)
      obtain ⟨as, hr, hn⟩ := TvAll.reads I ds _ its ha rv
      refine ⟨_, Reads.list ho hc hd hr, fun a h => ?_⟩
      rcases List.mem_cons.mp h with rfl | h
      · rw [hs]; exact fun z => nomatch z
      · exact hn a h
  | .tuple ds, _, _, h, r => by
    cases h with
    | tup n hs ha =>
      cases r
      obtain ⟨its, rv, ⟨o, ho, hc, m, hd⟩, _⟩ := I.tuple (SqT.of hs)
      obtain ⟨as, hr, hn⟩ := TvAll.reads I ds _ its ha rv
      exact ⟨_, Reads.tuple ho hc hd hr, hn⟩
  | .dict kd, _, _, h, r => by
    cases h with
    | dcI n ha hr =>
      cases r
      obtain ⟨_, nsm, vs, kv, o, es, ep, e1, ex, e2, e3, pr, _⟩ := I.hok _ _ ha
      obtain ⟨as, q1, q2, q3⟩ := TvKv.reads I kd _ vs es.toList hr kv pr
      refine ⟨_, .dict e1 ex.1 e2 q1 q2, fun b h => ?_⟩
      rcases List.mem_append.mp h with h | h
      · rcases List.mem_cons.mp h with h | h
        · rw [h, ha]; exact fun z => nomatch z
        · cases h
      · exact q3 b h
    | dic n ha =>
      cases r
      obtain ⟨_, nsm, vs, kv, o, es, ep, e1, ex, e2, _, pr, _⟩ := I.hok _ _ ha
      cases kv
      have ee : es.toList = [] := by
        generalize es.toList = l at pr
        cases pr
        rfl
      refine ⟨_, .dict e1 ex.1 e2 (by rw [ee]; exact .nil) (by rw [ee]; exact .nil), fun a h => ?_⟩
      simp only [List.append_nil, List.mem_singleton] at h
      subst h
      rw [ha]; exact fun z => nomatch z
theorem TvAll.reads (I : Inv X pins σ H s) : ∀ (ds : List PyData) (vs : List V) (us : List Value), TvAll p H vs ds → Vals vs us → ∃ as, ReadsAll s.heap us ds as ∧ ∀ a ∈ as, H a ≠ none
  | [], _, _, h, r => by
    cases h; cases r
    exact ⟨_, ReadsAll.nil, by simp⟩
  | d :: ds, _, _, h, r => by
    cases h with
    | cons h1 h2 =>
      cases r with
      | cons r1 r2 =>
        obtain ⟨as, q1, n1⟩ := Tv.reads I d _ _ h1 r1
        obtain ⟨bs, q2, n2⟩ := TvAll.reads I ds _ _ h2 r2
        exact ⟨_, ReadsAll.cons q1 q2, fun a h => (List.mem_append.mp h).elim (n1 a) (n2 a)⟩
theorem TvKv.reads (I : Inv X pins σ H s) : ∀ (kd : List (PyData × PyData)) (kvs : List (Key × V)) (vs : List (Key × Value)) (es : List DictEntry), TvKv p H kvs kd → L2.KV kvs vs → Pairs (mixKind X.prog X.w) es vs → ∃ as, ReadsAll s.heap (es.map (·.key)) (kd.map (·.1)) [] ∧ ReadsAll s.heap (es.map (·.val)) (kd.map (·.2)) as ∧ ∀ a ∈ as, H a ≠ none
  | [], _, _, _, h, r, q => by
    cases h; cases r; cases q
    exact ⟨[], .nil, .nil, by simp⟩
  | (_, d) :: ds, _, _, _, h, r, q => by
    cases h with
    | cons h1 h2 =>
      cases r with
      | cons r1 r2 =>
        cases q with
        | cons q1 qv q2 =>
          obtain ⟨as, a1, n1⟩ := Tv.reads I d _ _ h1 r1.2
          obtain ⟨bs, b1, b2, n2⟩ := TvKv.reads I ds _ _ _ h2 r2 q2
          rw [← r1.1] at q1
          obtain ⟨t, e2⟩ := Value.isInt_shape (show keyIs (.inl _) _ = true from q1)
          refine ⟨_, ReadsAll.cons (as := []) (bs := []) ?_ b1, ReadsAll.cons (rdE qv a1) b2, fun a h => (List.mem_append.mp h).elim (n1 a) (n2 a)⟩
          exact rdE e2 (Reads.int _ t)
end
end
mutual
/-- a key, told as data -/
def keyD : NestedKey → PyData
  | .none => .none
  | .num i => .int i
  | .text x => .str x
  | .tup ks => .tuple (keyDs ks)
def keyDs : List NestedKey → List PyData
  | [] => []
  | k :: r => keyD k :: keyDs r
end
section
variable {X : Cx} {pins : List (Addr × Obj)} {σ : L2.St} {H : Hp} {s : Shared}
mutual
theorem NV.reads (I : Inv X pins σ H s) : ∀ (k : NestedKey) (v : V) (u : Value), NV H k v → RelV v u → Reads s.heap u (keyD k) []
  | .none, _, _, h, r => by cases h; cases r; exact Reads.none
  | .num i, _, _, h, r => by
    cases h
    obtain ⟨t, rfl⟩ := r
    exact Reads.int i t
  | .text x, _, _, h, r => by
    cases h
    obtain ⟨t, rfl⟩ := r
    exact Reads.str x t
  | .tup ks, _, _, h, r => by
    cases h with
    | tup hs ha =>
      cases r
      obtain ⟨its, rv, ⟨o, ho, hc, m, hd⟩, _⟩ := I.tuple (SqT.of hs)
      exact Reads.tuple ho hc hd (NVs.reads I ks _ its ha rv)
theorem NVs.reads (I : Inv X pins σ H s) : ∀ (ks : List NestedKey) (vs : List V) (us : List Value), NVs H ks vs → Vals vs us → ReadsAll s.heap us (keyDs ks) []
  | [], _, _, h, r => by cases h; cases r; exact ReadsAll.nil
  | k :: ks, _, _, h, r => by
    cases h with
    | cons h1 h2 =>
      cases r with
      | cons r1 r2 => exact ReadsAll.cons (as := []) (bs := []) (NV.reads I k _ _ h1 r1) (NVs.reads I ks _ _ h2 r2)
end
end
def ndD (kvs : List (NestedKey × Bool)) : PyData := .dict (kvs.map fun p => (keyD p.1, .bool p.2))
def rReprT (K : PySem.W.Frag) (w : World) : List V → Hp → VK → Prop := fun xs H Q =>
  (∃ p v d, xs = [v] ∧ Tv p H v d ∧ d.showable = true ∧ d.depth ≤ 30 ∧ d.shown.length ≤ sizeLine ∧ Q (.str d.shown) H) ∨
  ∃ a kvs, xs = [.ref a] ∧ ND w H a (kvs.map fun p => (p.1, V.bl p.2)) ∧ (ndD kvs).showable = true ∧ (ndD kvs).depth ≤ 30 ∧ (ndD kvs).shown.length ≤ sizeLine ∧ Q (.str (ndD kvs).shown) H
section
variable {X : Cx} {k : Nat}
theorem nt_reads {pins : List (Addr × Obj)} {σ : L2.St} {H : Hp} {s : Shared} {w : World} (I : Inv X pins σ H s) : ∀ {kvs : List (NestedKey × Bool)} {xs : List (NestedKey × Addr × Value)}, NT H (kvs.map fun p => (p.1, V.bl p.2)) xs → ReadsAll s.heap ((xs.map fun x => (⟨x.1.hash w, .ref x.2.1, x.2.2⟩ : DictEntry)).map (·.key)) ((kvs.map fun p => (keyD p.1, PyData.bool p.2)).map (·.1)) [] ∧ ReadsAll s.heap ((xs.map fun x => (⟨x.1.hash w, .ref x.2.1, x.2.2⟩ : DictEntry)).map (·.val)) ((kvs.map fun p => (keyD p.1, PyData.bool p.2)).map (·.2)) []
  | [], _, h => by cases h; exact ⟨.nil, .nil⟩
  | p :: r, _, h => by
    cases h with
    | cons h1 h2 =>
      obtain ⟨e1, nv, _, rv⟩ := h1
      obtain ⟨q1, q2⟩ := nt_reads (w := w) I h2
      refine ⟨ReadsAll.cons (as := []) (bs := []) (NV.reads I _ _ _ nv rfl) q1, ReadsAll.cons (as := []) (bs := []) ?_ q2⟩
      have rv : _ = _ := rv
      have e : Reads s.heap (Value.bool p.2) (.bool p.2) [] := Reads.bool _
      rw [← rv] at e
      exact e
theorem call_reprT (ks : ∃ o, X.K.lookup sysModules = some o) (hgd : X.A.guards = some []) (hr : Room k X.A) : CallR X (.builtin "repr") (rReprT X.K X.w) := by
  intro pins s σ H xs us Q I rv h
  have hu := hr.units
  rcases h with ⟨p, v, d, rfl, hd, h1, h3, h4, q⟩ | ⟨a, kvs, rfl, ⟨ys, e, nt, _, _⟩, h1, h3, h4, q⟩
  · obtain ⟨u, rfl, ru⟩ := rv.one
    have big : ∀ a, v = .ref a → wpAny (model X.prog X.w) X.A (call (.builtin "repr") [u]) (EP X pins σ Q) X.xe s := by
      rintro a rfl
      obtain ⟨as, rd, ne⟩ := Tv.reads I d _ u hd ru
      cases ru
      obtain ⟨o, ho⟩ := ks
      have ns : H sysModules = none := (I.bs _ _ (I.ok.mod.kin _ _ ho)).2
      exact repr_of_reads' rd h1 (fun _ z => ne _ z ns) hgd (by omega) (fun _ _ e => e) (fun h' t tk hk => ⟨.str _, H, I.kept (t' := tk) hk, ⟨_, rfl⟩, q⟩) h4
    cases hd with
    | non =>
      cases ru
      rw [PyData.shown_none] at q
      exact PySem.P.repr_of_none ⟨.str _, H, I.tok _, ⟨_, rfl⟩, q⟩
    | bl b =>
      cases ru
      rw [PyData.shown_bool] at q
      refine PySem.P.repr_of_bool ⟨.str _, H, I.tok _, ⟨_, rfl⟩, ?_⟩
      cases b <;> exact q
    | int i =>
      obtain ⟨t, rfl⟩ := ru
      rw [PyData.shown_int] at q
      exact PySem.P.repr_of_int (by simpa [PyData.showable] using h1) ⟨.str _, H, I.tok _, ⟨_, rfl⟩, q⟩
    | str y =>
      obtain ⟨t, rfl⟩ := ru
      rw [PyData.shown_str] at q h4
      exact PySem.P.repr_of_str ⟨.str _, H, I.tok _, ⟨_, rfl⟩, q⟩ h4
    | lst _ _ _ => exact big _ rfl
    | tup _ _ _ => exact big _ rfl
    | dic _ _ => exact big _ rfl
    | dcI _ _ _ => exact big _ rfl
  · obtain ⟨u, rfl, ru⟩ := rv.one
    cases ru
    obtain ⟨⟨nsm, o, es, ep, e1, ex, e2, e3⟩, _, _⟩ := (show ObjOk X.prog X.w H s.heap a (NO X.w a ys) from I.hok a _ e)
    obtain ⟨r1, r2⟩ := nt_reads (w := X.w) I nt
    have rd : Reads s.heap (.ref a) (ndD kvs) (a :: [] ++ []) := .dict e1 ex.1 e2 (by rw [e3]; exact r1) (by rw [e3]; exact r2)
    refine repr_of_reads' rd h1 (fun _ z => ?_) hgd (by omega) (fun _ _ e => e) (fun h' t tk hk => ⟨.str _, H, I.kept (t' := tk) hk, ⟨_, rfl⟩, q⟩) h4
    have z : sysModules = a := by simpa using z
    rw [← z] at nsm
    exact absurd nsm (by decide)
end
theorem kReprT {X : Cx} (K : PySem.W.Frag) (w : World) (hK : X.K = K) (hw : X.w = w) {k : Nat} (ks : ∃ o, K.lookup sysModules = some o) (hgd : X.A.guards = some []) (hr : Room k X.A) : CallR X (.builtin "repr") (rReprT K w) := by subst hK hw; exact call_reprT ks hgd hr
end FY

set_option Elab.async false
set_option linter.all false
set_option maxRecDepth 100000
set_option maxHeartbeats 4000000
namespace FY
open PySem PySem.Spec PyProof.Rows L2 FYR
/-! ### repr of any value, also in a suite of an except clause -/
section
variable {X : Cx}
theorem call_reprU (ks : ∃ o, X.K.lookup sysModules = some o) (hgd : X.A.guards = some []) (hu : X.A.units + 64 < cLine) : CallR X (.builtin "repr") (rReprT X.K X.w) := by
  intro pins s σ H xs us Q I rv h
  rcases h with ⟨p, v, d, rfl, hd, h1, h3, h4, q⟩ | ⟨a, kvs, rfl, ⟨ys, e, nt, _, _⟩, h1, h3, h4, q⟩
  · obtain ⟨u, rfl, ru⟩ := rv.one
    have big : ∀ a, v = .ref a → wpAny (model X.prog X.w) X.A (call (.builtin "repr") [u]) (EP X pins σ Q) X.xe s := by
      rintro a rfl
      obtain ⟨as, rd, ne⟩ := Tv.reads I d _ u hd ru
      cases ru
      obtain ⟨o, ho⟩ := ks
      have ns : H sysModules = none := (I.bs _ _ (I.ok.mod.kin _ _ ho)).2
      exact repr_of_reads' rd h1 (fun _ z => ne _ z ns) hgd (by omega) (fun _ _ e => e) (fun h' t tk hk => ⟨.str _, H, I.kept (t' := tk) hk, ⟨_, rfl⟩, q⟩) h4
    cases hd with
    | non =>
      cases ru
      rw [PyData.shown_none] at q
      exact PySem.P.repr_of_none ⟨.str _, H, I.tok _, ⟨_, rfl⟩, q⟩
    | bl b =>
      cases ru
      rw [PyData.shown_bool] at q
      refine PySem.P.repr_of_bool ⟨.str _, H, I.tok _, ⟨_, rfl⟩, ?_⟩
      cases b <;> exact q
    | int i =>
      obtain ⟨t, rfl⟩ := ru
      rw [PyData.shown_int] at q
      exact PySem.P.repr_of_int (by simpa [PyData.showable] using h1) ⟨.str _, H, I.tok _, ⟨_, rfl⟩, q⟩
    | str y =>
      obtain ⟨t, rfl⟩ := ru
      rw [PyData.shown_str] at q h4
      exact PySem.P.repr_of_str ⟨.str _, H, I.tok _, ⟨_, rfl⟩, q⟩ h4
    | lst _ _ _ => exact big _ rfl
    | tup _ _ _ => exact big _ rfl
    | dic _ _ => exact big _ rfl
    | dcI _ _ _ => exact big _ rfl
  · obtain ⟨u, rfl, ru⟩ := rv.one
    cases ru
    obtain ⟨⟨nsm, o, es, ep, e1, ex, e2, e3⟩, _, _⟩ := (show ObjOk X.prog X.w H s.heap a (NO X.w a ys) from I.hok a _ e)
    obtain ⟨r1, r2⟩ := nt_reads (w := X.w) I nt
    have rd : Reads s.heap (.ref a) (ndD kvs) (a :: [] ++ []) := .dict e1 ex.1 e2 (by rw [e3]; exact r1) (by rw [e3]; exact r2)
    refine repr_of_reads' rd h1 (fun _ z => ?_) hgd (by omega) (fun _ _ e => e) (fun h' t tk hk => ⟨.str _, H, I.kept (t' := tk) hk, ⟨_, rfl⟩, q⟩) h4
    have z : sysModules = a := by simpa using z
    rw [← z] at nsm
    exact absurd nsm (by decide)
end
theorem kReprU {X : Cx} (K : PySem.W.Frag) (w : World) (hK : X.K = K) (hw : X.w = w) (ks : ∃ o, K.lookup sysModules = some o) (hgd : X.A.guards = some []) (hu : X.A.units + 64 < cLine) : CallR X (.builtin "repr") (rReprT K w) := by subst hK hw; exact call_reprU ks hgd hu
end FY

set_option Elab.async false
set_option linter.all false
set_option maxRecDepth 100000
set_option maxHeartbeats 4000000
namespace FY
open PySem L2 FYR
def spPot (K : PySem.W.Frag) : Sp := fun vs H Q _ => ∃ (L : Addr) (ns : List Int) (k : Int), vs = [.ref L, .int k] ∧ SqL K H L (ns.map V.int) ∧ 0 ≤ k ∧ k < 64 ∧ ∀ (H' : Hp) (p : Addr), Same H H' → H p = none → Pot p H' → Q (.ref p) H'
theorem sz {xs : List V} (h : Nat.ble xs.length 10 = true) : xs.length ≤ sizeLine := Nat.le_trans (Nat.le_of_ble_eq_true h) (by decide)
theorem kp_at {p L : Addr} {H H1 : Hp} {o : HO} (a : Kp p H H1) (h : H L = none) : Kp p H (upd H1 L o) := fun b u n e => by
  rw [upd_ne (ne_of_none e h)]
  exact a b u n e
theorem pot_at {p L : Addr} {H : Hp} {o : HO} (a : Pot p H) (h : L ≠ p) : Pot p (upd H L o) := by
  obtain ⟨x, y, e, r⟩ := a
  exact ⟨x, y, (upd_ne (Ne.symm h)).trans e, r⟩
theorem w6 {x : V} (h : x ∈ [V.str "not", V.str "twice", V.str "half", V.str "change", V.str "count", V.str "late"]) : (∃ w : W1, x = .str w.s) ∨ x = .str "late" := by
  simp only [List.mem_cons, List.not_mem_nil, or_false] at h
  rcases h with h | h | h | h | h | h
  · exact .inl ⟨.no, h⟩
  · exact .inl ⟨.twice, h⟩
  · exact .inl ⟨.half, h⟩
  · exact .inl ⟨.change, h⟩
  · exact .inl ⟨.count, h⟩
  · exact .inr h
theorem w5 {x : V} (h : x ∈ [V.str "not", V.str "twice", V.str "half", V.str "change", V.str "count"]) : ∃ w : W1, x = .str w.s := by
  simp only [List.mem_cons, List.not_mem_nil, or_false] at h
  rcases h with h | h | h | h | h
  · exact ⟨.no, h⟩
  · exact ⟨.twice, h⟩
  · exact ⟨.half, h⟩
  · exact ⟨.change, h⟩
  · exact ⟨.count, h⟩
theorem w4 {x : V} (h : x ∈ [V.str "by", V.str "by", V.str "keep", V.str "then"]) : x = .str "by" ∨ x = .str "keep" ∨ x = .str "then" := by
  simp only [List.mem_cons, List.not_mem_nil, or_false] at h
  rcases h with h | h | h | h
  · exact .inl h
  · exact .inl h
  · exact .inr (.inl h)
  · exact .inr (.inr h)
theorem w2 {x : V} (h : x ∈ [V.str "0", V.str "1"]) : ∃ b, x = .str (sgn b) := by
  simp only [List.mem_cons, List.not_mem_nil, or_false] at h
  rcases h with h | h
  · exact ⟨false, by rw [h, s0]⟩
  · exact ⟨true, by rw [h, s1]⟩
theorem tb4 {x : V} {bs : List Bool} (hb : bs.length = 4) (h : x ∈ [V.str "0110", V.str "0001", V.str "0111", V.str (tx bs)]) : ∃ a b c d, x = .str (tx [a, b, c, d]) := by
  simp only [List.mem_cons, List.not_mem_nil, or_false] at h
  rcases h with h | h | h | h
  · exact ⟨false, true, true, false, by rw [h]; exact congrArg V.str (by decide +kernel)⟩
  · exact ⟨false, false, false, true, by rw [h]; exact congrArg V.str (by decide +kernel)⟩
  · exact ⟨false, true, true, true, by rw [h]; exact congrArg V.str (by decide +kernel)⟩
  · match bs, hb with
    | [a, b, c, d], _ => exact ⟨a, b, c, d, h⟩
section
variable {P : Program} {w : World} {K : PySem.W.Frag} {mg : Str → Option Value} {base : Heap} {aS a1 a2 : Addr} {f : Addr} {fd : FuncData}
abbrev s_law_pot : Stmt := top 28
abbrev N_law_pot : List Str := ["_law_script", "_law_k", "_law_cell"]
theorem sc_law_pot : FnScope N_law_pot ["_law_script", "_law_k"] (defScope s_law_pot) := ⟨rfl, rfl, rfl, by decide +kernel, rfl, by decide +kernel, by decide +kernel⟩
theorem ok_law_pot (F : Fun K "_law_pot" "_law_pot" s_law_pot f fd) (T : Txt K mg aS a1 a2) : FnOk P w K mg base CX0 1 f fd ["_law_script", "_law_k"] (spPot K) := by
  refine F.ok sc_law_pot (fun vs H Q E h => ?_) (fun cdv A outer s H vs Q E hr h => ?_)
  · obtain ⟨L, ns, k, rfl, _⟩ := h
    rfl
  obtain ⟨L, ns, k, rfl, hS, k0, k1, q⟩ := h
  refine ⟨_, (pss_cons (ps_set (i := 2) sc_law_pot.nd rfl (Or.inl rfl) (pe_ifExp (pt_cmpR op_lt (pv 1) (pe_callB (kLen K rfl) rfl T.b_len bt_len (pa_cons (pv 0) pa_nil)) (nomark _)) (pe_callB call_abs rfl T.b_abs bt_abs (pa_cons (pe_ix (kIxL K rfl) (pv 0) (pv 1) (fun _ _ => rfl)) pa_nil)) (pe_op op_add (pe_op op_mul pe_int (pv 1)) pe_int)))
        (pss_one (ps_ret (pe_lst (pa_cons (pe_callB (call_max2 rfl) rfl T.b_max bt_max (pa_cons pe_int (pa_cons (pe_op op_sub (pv 2) (pe_op op_pow pe_int pe_int)) pa_nil))) (pa_cons (pe_op op_add (pe_op op_mod (pe_callTy call_int1 rfl T.b_int bt_int (pa_cons (pe_op op_add (pe_op op_add (pe_op op_mul (pe_op op_mod (pe_callTy call_int1 rfl T.b_int bt_int (pa_cons (pv 2) pa_nil)) pe_int) pe_int) (pe_op op_mul pe_int (pv 1))) pe_int) pa_nil)) pe_int) pe_int) pa_nil)))))), ?_⟩
  refine ⟨_, rfl, _, rfl, _, _, rfl, .inl hS, _, _, rfl, rfl, _, rfl, ?_⟩
  by_cases hk : k < (ns.map V.int).length
  · refine iteTd (by simpa using hk) ?_
    obtain ⟨x, hx, hm⟩ := atI_mem k0 hk
    obtain ⟨c, _, rfl⟩ := List.mem_map.mp hm
    refine ⟨_, rfl, _, rfl, _, _, _, _, rfl, rfl, hS, hx, c, rfl, ?_⟩
    refine ⟨_, rfl, _, _, rfl, rfl, ⟨by decide, by decide, by decide⟩, _, _, rfl, rfl, _, _, rfl, ?_⟩
    refine ⟨_, rfl, .inl ⟨_, rfl, _, _, rfl, rfl, (by dsimp only; decide), _, _, rfl, rfl, .inr (by decide), _, rfl, _, _, rfl, rfl, .inl (by decide), _, _, rfl, rfl, _, _, rfl, rfl, .inl ⟨_, rfl, _, _, rfl, rfl, (by dsimp only; decide), _, _, rfl, rfl, sz2, fun p hp => ?_⟩⟩⟩
    refine q _ _ (same_new hp _) hp ⟨_, _, upd_same, ?_, em_p1 _ (by decide), em_b1 _ (by decide) (by decide)⟩
    split <;> omega
  · refine iteFd (by simpa using hk) ⟨_, rfl, _, _, rfl, rfl, .inl (by decide), _, _, rfl, rfl, ?_⟩
    refine ⟨_, rfl, _, _, rfl, rfl, ⟨by decide, by decide, by decide⟩, _, _, rfl, rfl, _, _, rfl, ?_⟩
    refine ⟨_, rfl, .inl ⟨_, rfl, _, _, rfl, rfl, (by dsimp only; decide), _, _, rfl, rfl, .inr (by decide), _, rfl, _, _, rfl, rfl, .inl (by decide), _, _, rfl, rfl, _, _, rfl, rfl, .inl ⟨_, rfl, _, _, rfl, rfl, (by dsimp only; decide), _, _, rfl, rfl, sz2, fun p hp => ?_⟩⟩⟩
    refine q _ _ (same_new hp _) hp ⟨_, _, upd_same, ?_, em_p1 _ (by decide), em_b1 _ (by decide) (by decide)⟩
    split <;> omega
end
end FY


set_option Elab.async false
set_option linter.all false
set_option maxRecDepth 100000
set_option maxHeartbeats 4000000
namespace FY
open PySem L2 FYR
/-! ## rows, standings, stations -/
structure Rw where
  gives : List (List Bool)
  goal : Nat
  ticks : Nat
inductive Rd where
  | one | two | both
def Rd.s : Rd → Str | .one => "1" | .two => "2" | .both => "12"
def Rd.many : Rd → Nat | .both => 4 | _ => 2
theorem Rd.many_le (r : Rd) : r.many ≤ 100000 := by cases r <;> decide
structure Sg where
  reads : Rd
  rows : List Rw
structure Stn where
  ins : Nat
  outs : Nat
  stgs : List Sg
def Rw.ok (r : Rw) (outs many : Nat) : Prop := r.gives.length = outs ∧ (∀ g ∈ r.gives, g.length ≤ 2) ∧ r.goal < many ∧ 1 ≤ r.ticks ∧ r.ticks ≤ 9
def Sg.ok (s : Sg) (ins outs many : Nat) : Prop := (s.reads = .one ∨ ins = 2) ∧ s.rows.length = s.reads.many ∧ ∀ r ∈ s.rows, r.ok outs many
structure Stn.ok (t : Stn) : Prop where
  i1 : 1 ≤ t.ins
  i2 : t.ins ≤ 2
  o1 : 1 ≤ t.outs
  o2 : t.outs ≤ 2
  m1 : 1 ≤ t.stgs.length
  m2 : t.stgs.length ≤ 4
  sg : ∀ s ∈ t.stgs, s.ok t.ins t.outs t.stgs.length
def RwA (H : Hp) (v : V) (r : Rw) : Prop := ∃ a g, v = .ref a ∧ H a = some (.tup [.ref g, .int r.goal, .int r.ticks]) ∧ H g = some (.tup (r.gives.map fun b => V.str (tx b)))
theorem RwA.keep {H H' : Hp} (k : Tups H H') {v : V} {r : Rw} (h : RwA H v r) : RwA H' v r := by
  obtain ⟨a, g, e, h1, h2⟩ := h
  exact ⟨a, g, e, k _ _ h1, k _ _ h2⟩
theorem rwA_all {H H' : Hp} (k : Tups H H') : ∀ {ws : List V} {rs : List Rw}, Paired (RwA H) ws rs → Paired (RwA H') ws rs
  | _, _, .nil => .nil
  | _, _, .cons r q => .cons (r.keep k) (rwA_all k q)
/-- a standing as it is told: its rows a list -/
def ToldA (H : Hp) (v : V) (s : Sg) : Prop := ∃ a q ws, v = .ref a ∧ H a = some (.tup [.str s.reads.s, .ref q]) ∧ H q = some (.lst ws) ∧ Paired (RwA H) ws s.rows
/-- a standing as it is kept: its rows a tuple -/
def SgA (H : Hp) (v : V) (s : Sg) : Prop := ∃ a q ws, v = .ref a ∧ H a = some (.tup [.str s.reads.s, .ref q]) ∧ H q = some (.tup ws) ∧ Paired (RwA H) ws s.rows
theorem SgA.keep {H H' : Hp} (k : Tups H H') {v : V} {s : Sg} (h : SgA H v s) : SgA H' v s := by
  obtain ⟨a, q, ws, e, h1, h2, p⟩ := h
  exact ⟨a, q, ws, e, k _ _ h1, k _ _ h2, rwA_all k p⟩
theorem ToldA.same {H H' : Hp} (k : Same H H') {v : V} {s : Sg} (h : ToldA H v s) : ToldA H' v s := by
  obtain ⟨a, q, ws, e, h1, h2, p⟩ := h
  exact ⟨a, q, ws, e, k _ _ h1, k _ _ h2, rwA_all (Tups.of k) p⟩
def spIsInt : Sp := fun vs H Q _ => ∃ n, vs = [.int n] ∧ Q (.bl true) H
def spIsCount : Sp := fun vs H Q _ => ∃ n, vs = [.int n] ∧ Q (.bl (decide (0 ≤ n))) H
def spIsBelow : Sp := fun vs H Q _ => ∃ n m, vs = [.int n, .int m] ∧ 0 ≤ n ∧ Q (.bl (decide (n < m))) H
def spIsList : Sp := fun vs H Q _ => ∃ L xs, vs = [.ref L] ∧ H L = some (.lst xs) ∧ ∀ H', Same H H' → Q (.bl true) H'
def spIsRow : Sp := fun vs H Q _ => ∃ (v : V) (r : Rw) (outs many : Nat), vs = [v, .int outs, .int many] ∧ RwA H v r ∧ r.ok outs many ∧ outs ≤ 2 ∧ ∀ H', Same H H' → Q (.bl true) H'
def spAreRead : Sp := fun vs H Q _ => ∃ (r : Rd) (ins : Nat), vs = [.str r.s, .int ins] ∧ (r = .one ∨ ins = 2) ∧ Q (.bl true) H
def spIsTold : Sp := fun vs H Q _ => ∃ (v : V) (s : Sg) (ins outs many : Nat), vs = [v, .int ins, .int outs, .int many] ∧ ToldA H v s ∧ s.ok ins outs many ∧ outs ≤ 2 ∧ ∀ H', Same H H' → Q (.bl true) H'
theorem ty_int {K : PySem.W.Frag} {H : Hp} (n : Int) : TyX K H (.int n) (.type "int") := .base (.int n)
theorem kii {K : PySem.W.Frag} : PySem.W.kitOne K (.type "int") (.type "int") = some true := kit_ty (by decide +kernel)
theorem kib {K : PySem.W.Frag} : PySem.W.kitOne K (.type "int") (.type "bool") = some false := kit_ty (by decide +kernel)
theorem ty_lst {K : PySem.W.Frag} {H : Hp} {a : Addr} {xs : List V} (h : H a = some (.lst xs)) : TyX K H (.ref a) (.type "list") := .base (.lst h)
section
variable {P : Program} {w : World} {K : PySem.W.Frag} {mg : Str → Option Value} {base : Heap} {aS a1 a2 : Addr} {f : Addr} {fd : FuncData}
abbrev s_is_integer : Stmt := top 2
abbrev N_is_integer : List Str := ["value"]
theorem sc_is_integer : FnScope N_is_integer ["value"] (defScope s_is_integer) := ⟨rfl, rfl, rfl, by decide +kernel, rfl, by decide +kernel, by decide +kernel⟩
theorem ok_is_integer (F : Fun K "is_integer" "is_integer" s_is_integer f fd) (T : Txt K mg aS a1 a2) : FnOk P w K mg base CX0 1 f fd ["value"] spIsInt := by
  refine F.ok sc_is_integer (fun vs H Q E h => ?_) (fun cdv A outer s H vs Q E hr h => ?_)
  · obtain ⟨b, rfl, _⟩ := h
    rfl
  obtain ⟨n, rfl, q⟩ := h
  refine ⟨_, (pss_one (ps_ret (pe_and (pe_callB (kIsi K rfl) rfl T.b_isinstance bt_isinstance (pa_cons (pv 0) (pa_cons (pTy rfl T.b_int bt_int) pa_nil))) (pe_one (pe_not (pe_callB (kIsi K rfl) rfl T.b_isinstance bt_isinstance (pa_cons (pv 0) (pa_cons (pTy rfl T.b_bool bt_bool) pa_nil)))))))), ?_⟩
  exact ⟨_, rfl, _, _, _, _, _, rfl, .ty _, ty_int _, kii, _, rfl, iteT ⟨_, rfl, _, _, _, _, _, rfl, .ty _, ty_int _, kib, _, rfl, q⟩⟩
abbrev s_is_count : Stmt := top 3
abbrev N_is_count : List Str := ["value"]
theorem sc_is_count : FnScope N_is_count ["value"] (defScope s_is_count) := ⟨rfl, rfl, rfl, by decide +kernel, rfl, by decide +kernel, by decide +kernel⟩
theorem ok_is_count (F : Fun K "is_count" "is_count" s_is_count f fd) (T : Txt K mg aS a1 a2) (c_is_integer : C8.Cal P w K mg base 1 "is_integer" spIsInt []) : FnOk P w K mg base CX0 2 f fd ["value"] spIsCount := by
  refine F.ok sc_is_count (fun vs H Q E h => ?_) (fun cdv A outer s H vs Q E hr h => ?_)
  · obtain ⟨b, rfl, _⟩ := h
    rfl
  obtain ⟨n, rfl, q⟩ := h
  refine ⟨_, (pss_one (ps_ret (pe_and (C8.pe_c c_is_integer hr (by decide) rfl (pa_cons (pv 0) pa_nil)) (pe_one (pe_cmpR op_ge (pv 0) pe_int (nomark _)))))), ?_⟩
  exact ⟨_, rfl, n, rfl, _, rfl, iteT ⟨_, rfl, _, _, rfl, rfl, q⟩⟩
abbrev s_is_below : Stmt := top 4
abbrev N_is_below : List Str := ["value", "limit"]
theorem sc_is_below : FnScope N_is_below ["value", "limit"] (defScope s_is_below) := ⟨rfl, rfl, rfl, by decide +kernel, rfl, by decide +kernel, by decide +kernel⟩
theorem ok_is_below (F : Fun K "is_below" "is_below" s_is_below f fd) (T : Txt K mg aS a1 a2) (c_is_count : C8.Cal P w K mg base 2 "is_count" spIsCount []) : FnOk P w K mg base CX0 3 f fd ["value", "limit"] spIsBelow := by
  refine F.ok sc_is_below (fun vs H Q E h => ?_) (fun cdv A outer s H vs Q E hr h => ?_)
  · obtain ⟨b, m, rfl, _⟩ := h
    rfl
  obtain ⟨n, m, rfl, h0, q⟩ := h
  refine ⟨_, (pss_one (ps_ret (pe_and (C8.pe_c c_is_count hr (by decide) rfl (pa_cons (pv 0) pa_nil)) (pe_one (pe_cmpR op_lt (pv 0) (pv 1) (nomark _)))))), ?_⟩
  exact ⟨_, rfl, n, rfl, _, rfl, iteTd (by simpa using h0) ⟨_, rfl, _, rfl, _, _, rfl, rfl, q⟩⟩
abbrev s_is_list : Stmt := top 7
abbrev N_is_list : List Str := ["value"]
theorem sc_is_list : FnScope N_is_list ["value"] (defScope s_is_list) := ⟨rfl, rfl, rfl, by decide +kernel, rfl, by decide +kernel, by decide +kernel⟩
theorem ok_is_list (F : Fun K "is_list" "is_list" s_is_list f fd) (T : Txt K mg aS a1 a2) : FnOk P w K mg base CX0 1 f fd ["value"] spIsList := by
  refine F.ok sc_is_list (fun vs H Q E h => ?_) (fun cdv A outer s H vs Q E hr h => ?_)
  · obtain ⟨L, xs, rfl, _⟩ := h
    rfl
  obtain ⟨L, xs, rfl, hL, q⟩ := h
  refine ⟨_, (pss_one (ps_ret (pe_callB (kIsiT K rfl) rfl T.b_isinstance bt_isinstance (pa_cons (pv 0) (pa_cons (pe_tup (pa_cons (pTy rfl T.b_list bt_list) (pa_cons (pTy rfl T.b_tuple bt_tuple) pa_nil))) pa_nil))))), ?_⟩
  refine ⟨_, rfl, sz rfl, fun p hp => ⟨_, p, _, _, _, true, rfl, upd_same, .cons (.ty _) (.cons (.ty _) .nil), ty_lst (same_new hp _ _ _ hL), ?_, q _ (same_new hp _)⟩⟩
  exact kitAny_cons (b := true) (kit_ty (by decide +kernel)) (fun z => nomatch z) (fun _ => rfl)
abbrev s_is_row : Stmt := top 21
abbrev N_is_row : List Str := ["value", "outs", "many", "text"]
theorem sc_is_row : FnScope N_is_row ["value", "outs", "many"] (defScope s_is_row) := ⟨rfl, rfl, rfl, by decide +kernel, rfl, by decide +kernel, by decide +kernel⟩
theorem ok_is_row (F : Fun K "is_row" "is_row" s_is_row f fd) (T : Txt K mg aS a1 a2) (c_is_integer : C8.Cal P w K mg base 1 "is_integer" spIsInt []) (c_is_text_of : C8.Cal P w K mg base 2 "is_text_of" spIsTextOf []) (c_is_below : C8.Cal P w K mg base 3 "is_below" spIsBelow []) : FnOk P w K mg base CX0 4 f fd ["value", "outs", "many"] spIsRow := by
  refine F.ok sc_is_row (fun vs H Q E h => ?_) (fun cdv A outer s H vs Q E hr h => ?_)
  · obtain ⟨v, r, o, m, rfl, _⟩ := h
    rfl
  obtain ⟨v, r, outs, many, rfl, ⟨a, g, rfl, ha, hg⟩, ⟨r1, r2, r3, r4, r5⟩, ho2, q⟩ := h
  refine ⟨_, (pss_cons (ps_if (PW.pt (pw_or (pt_not (pt_val (pe_callB (kIsi K rfl) rfl T.b_isinstance bt_isinstance (pa_cons (pv 0) (pa_cons (pTy rfl T.b_tuple bt_tuple) pa_nil))))) (pw_or (pt_cmpR op_ne (pe_callB (kLen K rfl) rfl T.b_len bt_len (pa_cons (pv 0) pa_nil)) pe_int (nomark _)) (pw_or (pt_not (pt_val (pe_callB (kIsi K rfl) rfl T.b_isinstance bt_isinstance (pa_cons (pe_ix (kIxT K rfl) (pv 0) pe_int (fun _ _ => rfl)) (pa_cons (pTy rfl T.b_tuple bt_tuple) pa_nil))))) (pw_or1 (pt_cmpR op_ne (pe_callB (kLen K rfl) rfl T.b_len bt_len (pa_cons (pe_ix (kIxT K rfl) (pv 0) pe_int (fun _ _ => rfl)) pa_nil)) (pv 1) (nomark _)))))))
        (pss_one (ps_ret pe_bl))
        pss_nil)
        (pss_cons (ps_if (PW.pt (pw_or (pt_not (pt_val (pe_callB (kAll K rfl rfl) rfl T.b_all bt_all (pa_cons (pe_lc (own := [("text", 3)]) rfl sc_is_row.nd (kTup K rfl (pe_ix (kIxT K rfl) (pv 0) pe_int (fun _ _ => rfl))) (blkOk_by (N := N_is_row) (sc := defScope s_is_row) (by decide +kernel)) (fun _ _ _ _ _ => (pg_name (i := 3) sc_is_row.nd rfl (Or.inl rfl))) (fun _ _ _ _ _ => pts_nil) (fun _ _ _ _ _ => (C8.pe_c c_is_text_of hr (by decide) rfl (pa_cons (pv 3) (pa_cons (C8.pe_gc rfl T.g_MOST_GIVEN) pa_nil))))) pa_nil)))) (pw_or1 (pt_not (pt_val (C8.pe_c c_is_below hr (by decide) rfl (pa_cons (pe_ix (kIxT K rfl) (pv 0) pe_int (fun _ _ => rfl)) (pa_cons (pv 2) pa_nil))))))))
        (pss_one (ps_ret pe_bl))
        pss_nil)
        (pss_one (ps_ret (pe_and (C8.pe_c c_is_integer hr (by decide) rfl (pa_cons (pe_ix (kIxT K rfl) (pv 0) pe_int (fun _ _ => rfl)) pa_nil)) (pe_one (pe_chain op_le op_le pe_int (pe_ix (kIxT K rfl) (pv 0) pe_int (fun _ _ => rfl)) (C8.pe_gc rfl T.g_MOST_TICKS)))))))), ?_⟩
  refine ⟨_, rfl, _, _, _, _, _, rfl, .ty _, ty_tup ha, ktt, _, rfl, iteF ⟨_, rfl, _, _, rfl, .inr (SqT.of ha), rfl, _, rfl, iteFd (by rw [dec_int]; rfl) ⟨_, rfl, _, _, _, _, rfl, rfl, SqT.of ha, rfl, _, _, _, _, _, rfl, .ty _, ty_tup hg, ktt, _, rfl, iteF ⟨_, rfl, _, _, _, _, rfl, rfl, SqT.of ha, rfl, _, _, rfl, .inr (SqT.of hg), _, rfl, rfl, _, rfl, iteFd (by rw [dec_int, List.length_map, r1]; simp) ?_⟩⟩⟩⟩
  refine ⟨_, rfl, _, _, _, _, rfl, rfl, SqT.of ha, rfl, _, rfl, ⟨_, SqT.of hg⟩, fun D hD => lc_it walk_tup (fun i H' => Same H H' ∧ H' D = some (.lst (List.replicate i (.bl true)))) ⟨same_new hD _, upd_same⟩ (fun i H' _ z => SqT.of (z.1 _ _ hg)) ?_ ?_⟩
  · rintro i x H1 H2 hi ⟨sm, hd⟩ ⟨rfl, hx⟩
    obtain ⟨b, hb, rfl⟩ := List.getElem?_map_some hx
    have hb2 := r2 b (List.mem_of_getElem? hb)
    have hil := lt_len hb
    refine ⟨rfl, tyI ⟨_, rfl, b, _, rfl, by omega, fun H3 s3 => ?_⟩⟩
    rw [decide_eq_true (by omega)]
    refine ⟨_, s3 _ _ hd, ?_, same_at (sm.trans' s3) hD, ?_⟩
    · rw [List.length_replicate]
      exact Nat.lt_of_lt_of_le (show i < 100000 by omega) (by decide)
    · rw [upd_same, List.replicate_succ']
  · rintro H1 ⟨sm, hd⟩
    refine ⟨_, List.replicate _ true, rfl, SqL.of (by rw [hd, List.map_replicate]), _, rfl, ?_⟩
    rw [show ∀ m, (List.replicate m true).all id = true from fun m => by simp]
    have ha1 := sm _ _ ha
    refine iteF ⟨_, rfl, _, _, _, _, rfl, rfl, SqT.of ha1, rfl, _, rfl, _, _, rfl, by omega, _, rfl, ?_⟩
    rw [decide_eq_true (by omega)]
    refine iteF ⟨_, rfl, _, _, _, _, rfl, rfl, SqT.of ha1, rfl, _, rfl, _, rfl, iteT ?_⟩
    refine ⟨_, rfl, _, _, _, _, rfl, rfl, SqT.of ha1, rfl, _, _, rfl, rfl, _, rfl, iteTd (by simp; omega) ⟨_, _, rfl, rfl, ?_⟩⟩
    show Q (.bl (decide ((r.ticks : Int) ≤ 9))) H1
    rw [decide_eq_true (by omega)]
    exact q _ sm
end
/-- what the text says of LINES -/
structure Lin (K : PySem.W.Frag) (w : World) (mg : Str → Option Value) (aL : Addr) : Prop where
  g_LINES : ∃ u, mg "LINES" = some u ∧ RelV (.ref aL) u
  kd : ∃ es n, KDict K w aL es n
  at_ : ∀ r : Rd, ∃ u, PySem.W.nsIn K aL r.s = some (some u)
def rInL (K : PySem.W.Frag) (aL : Addr) : R2 := fun x y H Q => ∃ (z : Str) (r : Option Value), x = .str z ∧ y = .ref aL ∧ PySem.W.nsIn K aL z = some r ∧ Q (.bl r.isSome) H
theorem kInL {X : Cx} (K : PySem.W.Frag) (hK : X.K = K) {w : World} {mg : Str → Option Value} {aL : Addr} (hw : X.w = w) (L : Lin K w mg aL) : OpR X (compareOp .In) (rInL K aL) := by
  subst hK
  subst hw
  obtain ⟨es, n, kd⟩ := L.kd
  exact op_in_kd kd
section
variable {P : Program} {w : World} {K : PySem.W.Frag} {mg : Str → Option Value} {base : Heap} {aS a1 a2 aL : Addr} {f : Addr} {fd : FuncData}
abbrev s_are_read : Stmt := top 22
abbrev N_are_read : List Str := ["value", "ins"]
theorem sc_are_read : FnScope N_are_read ["value", "ins"] (defScope s_are_read) := ⟨rfl, rfl, rfl, by decide +kernel, rfl, by decide +kernel, by decide +kernel⟩
theorem ok_are_read (F : Fun K "are_read" "are_read" s_are_read f fd) (T : Txt K mg aS a1 a2) (L : Lin K w mg aL) : FnOk P w K mg base CX0 1 f fd ["value", "ins"] spAreRead := by
  refine F.ok sc_are_read (fun vs H Q E h => ?_) (fun cdv A outer s H vs Q E hr h => ?_)
  · obtain ⟨r, i, rfl, _⟩ := h
    rfl
  obtain ⟨r, ins, rfl, ho, q⟩ := h
  refine ⟨_, (pss_one (ps_ret (pe_and (pe_callB (kIsi K rfl) rfl T.b_isinstance bt_isinstance (pa_cons (pv 0) (pa_cons (pTy rfl T.b_str bt_str) pa_nil))) (pe_and (pe_cmpR (kInL K rfl rfl L) (pv 0) (C8.pe_gc rfl L.g_LINES) rfl) (pe_one (pe_or (pe_cmpR op_eq (pv 0) pe_str (nomark _)) (pe_one (pe_cmpR op_eq (pv 1) pe_int (nomark _))))))))), ?_⟩
  obtain ⟨u, hu⟩ := L.at_ r
  refine ⟨_, rfl, _, _, _, _, _, rfl, .ty _, ty_str _, kss, _, rfl, iteT ⟨_, rfl, _, _, rfl, rfl, hu, _, rfl, iteT ⟨_, rfl, rfl, _, rfl, ?_⟩⟩⟩
  rcases ho with rfl | rfl
  · refine iteTd (by decide +kernel) ?_
    exact q
  · cases r with
    | one =>
      refine iteTd (by decide +kernel) ?_
      exact q
    | two => exact iteFd (by decide +kernel) ⟨_, rfl, rfl, q⟩
    | both => exact iteFd (by decide +kernel) ⟨_, rfl, rfl, q⟩
abbrev s_is_standing_told : Stmt := top 23
abbrev N_is_standing_told : List Str := ["value", "ins", "outs", "many", "many_rows", "row"]
theorem sc_is_standing_told : FnScope N_is_standing_told ["value", "ins", "outs", "many"] (defScope s_is_standing_told) := ⟨rfl, rfl, rfl, by decide +kernel, rfl, by decide +kernel, by decide +kernel⟩
theorem ok_is_standing_told (F : Fun K "is_standing_told" "is_standing_told" s_is_standing_told f fd) (T : Txt K mg aS a1 a2) (c_are_read : C8.Cal P w K mg base 1 "are_read" spAreRead []) (c_is_list : C8.Cal P w K mg base 1 "is_list" spIsList []) (c_is_row : C8.Cal P w K mg base 4 "is_row" spIsRow []) : FnOk P w K mg base CX0 5 f fd ["value", "ins", "outs", "many"] spIsTold := by
  refine F.ok sc_is_standing_told (fun vs H Q E h => ?_) (fun cdv A outer s H vs Q E hr h => ?_)
  · obtain ⟨v, r, i, o, m, rfl, _⟩ := h
    rfl
  obtain ⟨v, sg, ins, outs, many, rfl, ⟨a, l, ws, rfl, ha, hl, pr⟩, ⟨o1, o2, o3⟩, ho2, q⟩ := h
  refine ⟨_, (pss_cons (ps_if (PW.pt (pw_or (pt_not (pt_val (pe_callB (kIsi K rfl) rfl T.b_isinstance bt_isinstance (pa_cons (pv 0) (pa_cons (pTy rfl T.b_tuple bt_tuple) pa_nil))))) (pw_or (pt_cmpR op_ne (pe_callB (kLen K rfl) rfl T.b_len bt_len (pa_cons (pv 0) pa_nil)) pe_int (nomark _)) (pw_or (pt_not (pt_val (C8.pe_c c_are_read hr (by decide) rfl (pa_cons (pe_ix (kIxT K rfl) (pv 0) pe_int (fun _ _ => rfl)) (pa_cons (pv 1) pa_nil))))) (pw_or1 (pt_not (pt_val (C8.pe_c c_is_list hr (by decide) rfl (pa_cons (pe_ix (kIxT K rfl) (pv 0) pe_int (fun _ _ => rfl)) pa_nil)))))))))
        (pss_one (ps_ret pe_bl))
        pss_nil)
        (pss_cons (ps_set (i := 4) sc_is_standing_told.nd rfl (Or.inl rfl) (pe_ifExp (pt_cmpR op_eq (pe_ix (kIxT K rfl) (pv 0) pe_int (fun _ _ => rfl)) pe_str (nomark _)) pe_int pe_int))
        (pss_one (ps_ret (pe_and (pe_cmpR op_eq (pe_callB (kLen K rfl) rfl T.b_len bt_len (pa_cons (pe_ix (kIxT K rfl) (pv 0) pe_int (fun _ _ => rfl)) pa_nil)) (pv 4) (nomark _)) (pe_one (pe_callB (kAll K rfl rfl) rfl T.b_all bt_all (pa_cons (pe_lc (own := [("row", 5)]) rfl sc_is_standing_told.nd (kList K rfl (pe_ix (kIxT K rfl) (pv 0) pe_int (fun _ _ => rfl))) (blkOk_by (N := N_is_standing_told) (sc := defScope s_is_standing_told) (by decide +kernel)) (fun _ _ _ _ _ => (pg_name (i := 5) sc_is_standing_told.nd rfl (Or.inl rfl))) (fun _ _ _ _ _ => pts_nil) (fun _ _ _ _ _ => (C8.pe_c c_is_row hr (by decide) rfl (pa_cons (pv 5) (pa_cons (pv 2) (pa_cons (pv 3) pa_nil)))))) pa_nil)))))))), ?_⟩
  refine ⟨_, rfl, _, _, _, _, _, rfl, .ty _, ty_tup ha, ktt, _, rfl, iteF ⟨_, rfl, _, _, rfl, .inr (SqT.of ha), rfl, _, rfl, iteFd (by rw [dec_int]; rfl) ⟨_, rfl, _, _, _, _, rfl, rfl, SqT.of ha, rfl, _, rfl, sg.reads, ins, rfl, o1, _, rfl, iteF ⟨_, rfl, _, _, _, _, rfl, rfl, SqT.of ha, rfl, l, _, rfl, hl, fun H1 s1 => ⟨_, rfl, iteF ?_⟩⟩⟩⟩⟩
  have ha1 := s1 _ _ ha
  have hl1 := s1 _ _ hl
  have hwl := paired_len pr
  refine ⟨_, rfl, _, _, _, _, rfl, rfl, SqT.of ha1, rfl, rfl, _, rfl, ?_⟩
  obtain ⟨rd, rows⟩ := sg
  cases rd with
  | one =>
    refine iteFd (by decide +kernel : decide (V.str Rd.one.s = V.str ("12" : Str)) = false) ?_
    refine ⟨_, rfl, _, _, _, _, rfl, rfl, SqT.of ha1, rfl, _, _, rfl, .inl (SqL.of hl1), _, rfl, rfl, _, rfl, iteTd (by rw [dec_int, hwl, o2]; rfl) ?_⟩
    refine ⟨_, rfl, _, _, _, _, rfl, rfl, SqT.of ha1, rfl, _, rfl, ⟨_, SqL.of hl1⟩, fun D hD => lc_it walk_list (fun i H' => Same H1 H' ∧ H' D = some (.lst (List.replicate i (.bl true)))) ⟨same_new hD _, upd_same⟩ (fun i H' _ z => SqL.of (z.1 _ _ hl1)) ?_ ?_⟩
    · rintro i x H2 H3 hi ⟨sm, hd⟩ ⟨rfl, hx⟩
      obtain ⟨r, hr, hxr⟩ := paired_get pr hx
      have hil := lt_len hr
      refine ⟨rfl, tyI ⟨_, rfl, _, rfl, _, rfl, x, r, outs, many, rfl, hxr.keep (Tups.of (s1.trans' sm)), o3 r (List.mem_of_getElem? hr), ho2, fun H4 s4 => ?_⟩⟩
      refine ⟨_, s4 _ _ hd, ?_, same_at (sm.trans' s4) hD, ?_⟩
      · rw [List.length_replicate]
        exact Nat.lt_of_lt_of_le (show i < 100000 by rw [o2] at hil; exact Nat.lt_of_lt_of_le hil (Rd.many_le _)) (by decide)
      · rw [upd_same, List.replicate_succ']
    · rintro H2 ⟨sm, hd⟩
      refine ⟨_, List.replicate _ true, rfl, SqL.of (by rw [hd, List.map_replicate]), ?_⟩
      rw [show ∀ m, (List.replicate m true).all id = true from fun m => by simp]
      exact q _ (s1.trans' sm)
  | two =>
    refine iteFd (by decide +kernel : decide (V.str Rd.two.s = V.str ("12" : Str)) = false) ?_
    refine ⟨_, rfl, _, _, _, _, rfl, rfl, SqT.of ha1, rfl, _, _, rfl, .inl (SqL.of hl1), _, rfl, rfl, _, rfl, iteTd (by rw [dec_int, hwl, o2]; rfl) ?_⟩
    refine ⟨_, rfl, _, _, _, _, rfl, rfl, SqT.of ha1, rfl, _, rfl, ⟨_, SqL.of hl1⟩, fun D hD => lc_it walk_list (fun i H' => Same H1 H' ∧ H' D = some (.lst (List.replicate i (.bl true)))) ⟨same_new hD _, upd_same⟩ (fun i H' _ z => SqL.of (z.1 _ _ hl1)) ?_ ?_⟩
    · rintro i x H2 H3 hi ⟨sm, hd⟩ ⟨rfl, hx⟩
      obtain ⟨r, hr, hxr⟩ := paired_get pr hx
      have hil := lt_len hr
      refine ⟨rfl, tyI ⟨_, rfl, _, rfl, _, rfl, x, r, outs, many, rfl, hxr.keep (Tups.of (s1.trans' sm)), o3 r (List.mem_of_getElem? hr), ho2, fun H4 s4 => ?_⟩⟩
      refine ⟨_, s4 _ _ hd, ?_, same_at (sm.trans' s4) hD, ?_⟩
      · rw [List.length_replicate]
        exact Nat.lt_of_lt_of_le (show i < 100000 by rw [o2] at hil; exact Nat.lt_of_lt_of_le hil (Rd.many_le _)) (by decide)
      · rw [upd_same, List.replicate_succ']
    · rintro H2 ⟨sm, hd⟩
      refine ⟨_, List.replicate _ true, rfl, SqL.of (by rw [hd, List.map_replicate]), ?_⟩
      rw [show ∀ m, (List.replicate m true).all id = true from fun m => by simp]
      exact q _ (s1.trans' sm)
  | both =>
    refine iteTd (by decide +kernel : decide (V.str Rd.both.s = V.str ("12" : Str)) = true) ?_
    refine ⟨_, rfl, _, _, _, _, rfl, rfl, SqT.of ha1, rfl, _, _, rfl, .inl (SqL.of hl1), _, rfl, rfl, _, rfl, iteTd (by rw [dec_int, hwl, o2]; rfl) ?_⟩
    refine ⟨_, rfl, _, _, _, _, rfl, rfl, SqT.of ha1, rfl, _, rfl, ⟨_, SqL.of hl1⟩, fun D hD => lc_it walk_list (fun i H' => Same H1 H' ∧ H' D = some (.lst (List.replicate i (.bl true)))) ⟨same_new hD _, upd_same⟩ (fun i H' _ z => SqL.of (z.1 _ _ hl1)) ?_ ?_⟩
    · rintro i x H2 H3 hi ⟨sm, hd⟩ ⟨rfl, hx⟩
      obtain ⟨r, hr, hxr⟩ := paired_get pr hx
      have hil := lt_len hr
      refine ⟨rfl, tyI ⟨_, rfl, _, rfl, _, rfl, x, r, outs, many, rfl, hxr.keep (Tups.of (s1.trans' sm)), o3 r (List.mem_of_getElem? hr), ho2, fun H4 s4 => ?_⟩⟩
      refine ⟨_, s4 _ _ hd, ?_, same_at (sm.trans' s4) hD, ?_⟩
      · rw [List.length_replicate]
        exact Nat.lt_of_lt_of_le (show i < 100000 by rw [o2] at hil; exact Nat.lt_of_lt_of_le hil (Rd.many_le _)) (by decide)
      · rw [upd_same, List.replicate_succ']
    · rintro H2 ⟨sm, hd⟩
      refine ⟨_, List.replicate _ true, rfl, SqL.of (by rw [hd, List.map_replicate]), ?_⟩
      rw [show ∀ m, (List.replicate m true).all id = true from fun m => by simp]
      exact q _ (s1.trans' sm)
end
end FY


set_option Elab.async false
set_option linter.all false
set_option maxRecDepth 100000
set_option maxHeartbeats 4000000
namespace FY
open PySem L2 FYR
theorem kTupOf {X : Cx} (K : PySem.W.Frag) (hK : X.K = K) : CallR X (.type "tuple") (fun xs H Q => ∃ p ys, xs = [.ref p] ∧ ((SqL K H p ys ∧ ∀ l, H l = none → Q (.ref l) (upd H l (.tup ys))) ∨ (SqT K H p ys ∧ Q (.ref p) H))) := by subst hK; exact call_tuple_of
def sflds (ins outs : Nat) (p : Addr) : List (Str × V) := [("own_ins", .int ins), ("own_outs", .int outs), ("own_standings", .ref p)]
/-- the value is a Station of the class at C -/
def StnA (C : Addr) (H : Hp) (v : V) (t : Stn) : Prop := ∃ a dx p ps, v = .ref a ∧ H a = some (.ins C dx (sflds t.ins t.outs p)) ∧ H p = some (.tup ps) ∧ Paired (SgA H) ps t.stgs
structure StC (K : PySem.W.Frag) (mg : Str → Option Value) (C : Addr) : Prop where
  g_Station : ∃ u, mg "Station" = some u ∧ RelV (.ref C) u
  cl : Cls K C
  nI : NoAttr K C "own_ins"
  nO : NoAttr K C "own_outs"
  nS : NoAttr K C "own_standings"
theorem sgA_all {H H' : Hp} (k : Tups H H') : ∀ {ws : List V} {rs : List Sg}, Paired (SgA H) ws rs → Paired (SgA H') ws rs
  | _, _, .nil => .nil
  | _, _, .cons r q => .cons (r.keep k) (sgA_all k q)
theorem told_all {H H' : Hp} (k : Same H H') : ∀ {ws : List V} {rs : List Sg}, Paired (ToldA H) ws rs → Paired (ToldA H') ws rs
  | _, _, .nil => .nil
  | _, _, .cons r q => .cons (r.same k) (told_all k q)
/-- all but the instance at a -/
def But (a : Addr) (H H' : Hp) : Prop := ∀ b o, b ≠ a → H b = some o → H' b = some o
theorem But.tups {a C dx : Addr} {fs : List (Str × V)} {H H' : Hp} (k : But a H H') (ha : H a = some (.ins C dx fs)) : Tups H H' := fun b xs e => k b _ (fun z => by rw [z, ha] at e; cases e) e
theorem But.lst {a C dx : Addr} {fs : List (Str × V)} {H H' : Hp} (k : But a H H') (ha : H a = some (.ins C dx fs)) {L : Addr} {xs : List V} (e : H L = some (.lst xs)) : H' L = some (.lst xs) := k L _ (fun z => by rw [z, ha] at e; cases e) e
theorem ToldA.but {a C dx : Addr} {fs : List (Str × V)} {H H' : Hp} (k : But a H H') (ha : H a = some (.ins C dx fs)) {v : V} {s : Sg} (h : ToldA H v s) : ToldA H' v s := by
  obtain ⟨b, q, ws, e, h1, h2, p⟩ := h
  exact ⟨b, q, ws, e, k.tups ha _ _ h1, k.lst ha h2, rwA_all (k.tups ha) p⟩
theorem told_but {a C dx : Addr} {fs : List (Str × V)} {H H' : Hp} (k : But a H H') (ha : H a = some (.ins C dx fs)) : ∀ {ws : List V} {rs : List Sg}, Paired (ToldA H) ws rs → Paired (ToldA H') ws rs
  | _, _, .nil => .nil
  | _, _, .cons r q => .cons (r.but k ha) (told_but k ha q)
theorem pf1 (x y : V) : putF "own_outs" y [("own_ins", x)] = ([("own_ins", x), ("own_outs", y)] : List (Str × V)) := by
  show (if ("own_ins" : Str) = "own_outs" then _ else _) = _
  rw [if_neg (by decide +kernel)]
  rfl
theorem pf2 (x y z : V) : putF "own_standings" z [("own_ins", x), ("own_outs", y)] = ([("own_ins", x), ("own_outs", y), ("own_standings", z)] : List (Str × V)) := by
  show (if ("own_ins" : Str) = "own_standings" then _ else (("own_ins" : Str), x) :: (if ("own_outs" : Str) = "own_standings" then _ else _)) = _
  rw [if_neg (by decide +kernel), if_neg (by decide +kernel)]
  rfl
def spStInit (C : Addr) : Sp := fun vs H Q _ => ∃ (a L dx : Addr) (ws : List V) (t : Stn), vs = [.ref a, .int t.ins, .int t.outs, .ref L] ∧ H a = some (.ins C dx []) ∧ H L = some (.lst ws) ∧ Paired (ToldA H) ws t.stgs ∧ t.ok ∧ ∀ H', (∀ b o, b ≠ a → H b = some o → H' b = some o) → StnA C H' (.ref a) t → Q .non H'
section
variable {P : Program} {w : World} {K : PySem.W.Frag} {mg : Str → Option Value} {base : Heap} {aS a1 a2 aL : Addr} {f : Addr} {fd : FuncData} {C : Addr}
abbrev s_Station___init__ : Stmt := inClass (top 25) 0
abbrev N_Station___init__ : List Str := ["self", "ins", "outs", "standings", "position", "told", "reads", "rows"]
theorem sc_Station___init__ : FnScope N_Station___init__ ["self", "ins", "outs", "standings"] (defScope s_Station___init__) := ⟨rfl, rfl, rfl, by decide +kernel, rfl, by decide +kernel, by decide +kernel⟩
theorem ok_Station_init (F : Fun K "__init__" "Station.__init__" s_Station___init__ f fd) (T : Txt K mg aS a1 a2) (S : StC K mg C) (c_is_integer : C8.Cal P w K mg base 1 "is_integer" spIsInt []) (c_is_list : C8.Cal P w K mg base 1 "is_list" spIsList []) (c_is_standing_told : C8.Cal P w K mg base 5 "is_standing_told" spIsTold []) : FnOk P w K mg base CX0 6 f fd ["self", "ins", "outs", "standings"] (spStInit C) := by
  refine F.ok sc_Station___init__ (fun vs H Q E h => ?_) (fun cdv A outer s H vs Q E hr h => ?_)
  · obtain ⟨a, L, dx, ws, t, rfl, _⟩ := h
    rfl
  obtain ⟨a, L, dx, ws, t, rfl, ha, hL, pr, tok, q⟩ := h
  have i1 := tok.i1
  have i2 := tok.i2
  have o1 := tok.o1
  have o2 := tok.o2
  have m1 := tok.m1
  have m2 := tok.m2
  have hwl := paired_len pr
  refine ⟨_, (pss_cons (ps_if (PW.pt (pw_or (pt_not (pt_val (C8.pe_c c_is_integer hr (by decide) rfl (pa_cons (pv 1) pa_nil)))) (pw_or1 (pt_not (pt_chain op_le op_le pe_int (pv 1) pe_int)))))
        (pss_one ps_never)
        pss_nil)
        (pss_cons (ps_if (PW.pt (pw_or (pt_not (pt_val (C8.pe_c c_is_integer hr (by decide) rfl (pa_cons (pv 2) pa_nil)))) (pw_or1 (pt_not (pt_chain op_le op_le pe_int (pv 2) pe_int)))))
        (pss_one ps_never)
        pss_nil)
        (pss_cons (ps_if (PW.pt (pw_or (pt_not (pt_val (C8.pe_c c_is_list hr (by decide) rfl (pa_cons (pv 3) pa_nil)))) (pw_or1 (pt_not (pt_chain op_le op_le pe_int (pe_callB (kLen K rfl) rfl T.b_len bt_len (pa_cons (pv 3) pa_nil)) (C8.pe_gc rfl T.g_MOST_STANDINGS))))))
        (pss_one ps_never)
        pss_nil)
        (pss_cons (ps_for PassesOwn.never rfl (kEnum K rfl rfl T.b_enumerate (pa_cons (pv 3) pa_nil)) (kTupG (n := 2) K rfl rfl (pgs_cons (pg_name (i := 4) sc_Station___init__.nd rfl (Or.inl rfl)) (pgs_cons (pg_name (i := 5) sc_Station___init__.nd rfl (Or.inl rfl)) pgs_nil)))
        (pss_one (ps_if (pt_not (pt_val (C8.pe_c c_is_standing_told hr (by decide) rfl (pa_cons (pv 5) (pa_cons (pv 1) (pa_cons (pv 2) (pa_cons (pe_callB (kLen K rfl) rfl T.b_len bt_len (pa_cons (pv 3) pa_nil)) pa_nil)))))))
        (pss_one ps_never)
        pss_nil)))
        (pss_cons (kSetF K rfl (pv 0) (pv 1))
        (pss_cons (kSetF K rfl (pv 0) (pv 2))
        (pss_one (kSetF K rfl (pv 0) (pe_callTy (kTupOf K rfl) rfl T.b_tuple bt_tuple (pa_cons (pe_lc (own := [("reads", 6), ("rows", 7)]) rfl sc_Station___init__.nd (kList K rfl (pv 3)) (blkOk_by (N := N_Station___init__) (sc := defScope s_Station___init__) (by decide +kernel)) (fun _ _ _ _ _ => (kTupG (n := 2) K rfl rfl (pgs_cons (pg_name (i := 6) sc_Station___init__.nd rfl (Or.inl rfl)) (pgs_cons (pg_name (i := 7) sc_Station___init__.nd rfl (Or.inl rfl)) pgs_nil)))) (fun _ _ _ _ _ => pts_nil) (fun _ _ _ _ _ => (pe_tup (pa_cons (pv 6) (pa_cons (pe_callTy (kTupOf K rfl) rfl T.b_tuple bt_tuple (pa_cons (pv 7) pa_nil)) pa_nil))))) pa_nil)))))))))), ?_⟩
  refine ⟨_, rfl, _, rfl, _, rfl, iteF ⟨_, rfl, _, _, rfl, rfl, _, rfl, iteTd (by simp; omega) ⟨_, _, rfl, rfl, _, rfl, iteFd (by simp; omega) ?_⟩⟩⟩
  refine ⟨_, rfl, _, rfl, _, rfl, iteF ⟨_, rfl, _, _, rfl, rfl, _, rfl, iteTd (by simp; omega) ⟨_, _, rfl, rfl, _, rfl, iteFd (by simp; omega) ?_⟩⟩⟩
  refine ⟨_, rfl, L, _, rfl, hL, fun H1 s1 => ⟨_, rfl, iteF ⟨_, rfl, _, _, rfl, .inl (SqL.of (s1 _ _ hL)), _, _, rfl, rfl, _, rfl, iteTd (by simp; omega) ⟨_, _, rfl, rfl, _, rfl, iteFd (by simp; omega) ?_⟩⟩⟩⟩
  have hL1 := s1 _ _ hL
  refine ⟨_, rfl, _, _, rfl, SqL.of hL1, for_it walk_enum (fun i σ H' => ∃ z4 z5 : Option V, σ = [some (.ref a), some (.int t.ins), some (.int t.outs), some (.ref L), z4, z5, none, none] ∧ Same H H') ⟨_, _, rfl, s1⟩ (fun i σ H' _ ⟨_, _, _, e⟩ => SqL.of (e _ _ hL)) ?_ ?_⟩
  · rintro i x σ H2 H3 hi ⟨z4, z5, rfl, sm⟩ ⟨T0, p1, p2, rfl, hT0, rfl, hp1, hp2⟩
    obtain ⟨sg, hsg, hx⟩ := paired_get pr hp2
    have k0 := same_new hT0 (.tup [p1, p2])
    refine ⟨_, _, rfl, SqT.of upd_same, rfl, _, _, rfl, _, _, rfl, rfl, ?_⟩
    refine ⟨_, rfl, _, rfl, _, rfl, _, rfl, _, _, rfl, .inl (SqL.of (k0 _ _ (sm _ _ hL))), p2, sg, t.ins, t.outs, ws.length, rfl, hx.same (sm.trans' k0), ?_, o2, fun H4 s4 => ⟨_, rfl, iteF ⟨_, _, rfl, (sm.trans' k0).trans' s4⟩⟩⟩
    have := tok.sg sg (List.mem_of_getElem? hsg)
    rw [hwl]
    exact this
  · rintro σ H2 ⟨z4, z5, rfl, sm⟩
    have ha2 := sm _ _ ha
    have hLa : L ≠ a := fun z => by rw [z, ha] at hL; cases hL
    refine ⟨_, rfl, _, rfl, a, C, dx, _, rfl, ha2, S.cl, S.nI, by decide, ?_⟩
    refine ⟨_, rfl, _, rfl, a, C, dx, [("own_ins", .int t.ins)], rfl, upd_same, S.cl, S.nO, Nat.lt_of_lt_of_le (Nat.lt_succ_self 1) (by decide : 2 ≤ 1000), ?_⟩
    rw [pf1]
    obtain ⟨H4, hH4⟩ : ∃ H4, H4 = upd (upd H2 a (.ins C dx (putF "own_ins" (.int t.ins) []))) a (.ins C dx [("own_ins", .int t.ins), ("own_outs", .int t.outs)]) := ⟨_, rfl⟩
    have ha4 : H4 a = some (.ins C dx [("own_ins", .int t.ins), ("own_outs", .int t.outs)]) := by rw [hH4, upd_same]
    have b4 : But a H H4 := fun b o hb e => by rw [hH4, upd_ne hb, upd_ne hb]; exact sm _ _ e
    rw [← hH4]
    clear hH4
    have hL4 := b4.lst ha hL
    have pr4 := told_but b4 ha pr
    refine ⟨_, rfl, _, rfl, ⟨_, SqL.of hL4⟩, fun D hD => lc_it walk_list (fun i H' => Same H4 H' ∧ ∃ us, H' D = some (.lst us) ∧ Paired (SgA H') us (t.stgs.take i)) ⟨same_new hD _, [], upd_same, .nil⟩ (fun i H' _ z => SqL.of (z.1 _ _ hL4)) ?_ ?_⟩
    · rintro i x H5 H6 hi ⟨sm5, us, hd, pu⟩ ⟨rfl, hx⟩
      obtain ⟨sg, hsg, hxs⟩ := paired_get pr4 hx
      obtain ⟨b, l, rs, rfl, hb, hl, prs⟩ := hxs.same sm5
      have hlu := paired_len pu
      have hil := lt_len hsg
      refine ⟨_, _, rfl, SqT.of hb, rfl, _, _, rfl, _, _, rfl, rfl, rfl, tyI ⟨_, rfl, _, rfl, _, _, rfl, .inl ⟨SqL.of hl, fun p1 hp1 => ⟨sz rfl, fun p2 hp2 => ?_⟩⟩⟩⟩
      have k1 := same_new hp1 (.tup rs)
      have k2 := same_new hp2 (.tup [.str sg.reads.s, .ref p1])
      have hd2 := k2 _ _ (k1 _ _ hd)
      have tu : Tups H6 (upd (upd (upd H6 p1 (.tup rs)) p2 (.tup [.str sg.reads.s, .ref p1])) D (.lst (us ++ [.ref p2]))) := (Tups.of (k1.trans' k2)).trans (tups_at hd2)
      refine ⟨_, hd2, ?_, same_at ((sm5.trans' k1).trans' k2) hD, us ++ [.ref p2], upd_same, ?_⟩
      · rw [List.length_take] at hlu
        exact Nat.lt_of_lt_of_le (show us.length < 100000 by omega) (by decide)
      · rw [List.take_succ, hsg]
        refine paired_app (sgA_all tu pu) (.cons ⟨p2, p1, rs, rfl, tups_at hd2 _ _ upd_same, tups_at hd2 _ _ (k2 _ _ upd_same), rwA_all tu prs⟩ .nil)
    · rintro H5 ⟨sm5, us, hd, pu⟩
      rw [hwl, List.take_of_length_le (Nat.le_refl _)] at pu
      refine ⟨_, _, rfl, .inl ⟨SqL.of hd, fun p hp => ?_⟩⟩
      have kp := same_new hp (.tup us)
      refine ⟨_, rfl, a, C, dx, _, rfl, kp _ _ (sm5 _ _ ha4), S.cl, S.nS, Nat.lt_of_lt_of_le (Nat.lt_succ_self 2) (by decide : 3 ≤ 1000), ?_⟩
      rw [pf2]
      have haK : upd H5 p (.tup us) a = some (.ins C dx [("own_ins", .int t.ins), ("own_outs", .int t.outs)]) := kp _ _ (sm5 _ _ ha4)
      have bK : But a (upd H5 p (.tup us)) (upd (upd H5 p (.tup us)) a (.ins C dx [("own_ins", .int t.ins), ("own_outs", .int t.outs), ("own_standings", .ref p)])) := fun b o hb e => by rw [upd_ne hb]; exact e
      refine q _ (fun b o hb e => bK b o hb (kp _ _ (sm5 _ _ (b4 b o hb e)))) ⟨a, dx, p, us, rfl, upd_same, bK.tups haK _ _ upd_same, sgA_all ((Tups.of kp).trans (bK.tups haK)) pu⟩
end
end FY


set_option Elab.async false
set_option linter.all false
set_option maxRecDepth 100000
set_option maxHeartbeats 4000000
namespace FY
open PySem L2 FYR
theorem kStar {X : Cx} (K : PySem.W.Frag) (hK : X.K = K) {e : Expr} {es : List Expr} {p : Pos} {te : TE} {t : L2.TA} (he : PE X e te) (hr : PA X es t) (hs : starEach (.Starred e p :: es) X.env = (true, eval e X.env) :: starEach es X.env := by rfl) : PA X (.Starred e p :: es) (StX.tStar K te t) := by subst hK; exact StX.pa_star he hr hs
abbrev Pipe := Nat × Nat × Nat × Nat
def PipeA (H : Hp) (v : V) (p : Pipe) : Prop := ∃ t, v = .ref t ∧ H t = some (.tup [.int p.1, .int p.2.1, .int p.2.2.1, .int p.2.2.2])
abbrev Ln := Option (Nat × Nat)
def LnA (H : Hp) (v : V) : Ln → Prop
  | none => v = .non
  | some l => ∃ t, v = .ref t ∧ H t = some (.tup [.int l.1, .int l.2])
def pipesOf (n : Nat) : Nat → List Ln → List Pipe
  | _, [] => []
  | p, none :: r => pipesOf n (p + 1) r
  | p, some l :: r => (l.1, l.2, n, p) :: pipesOf n (p + 1) r
theorem pipesOf_app (n : Nat) : ∀ (p : Nat) (a b : List Ln), pipesOf n p (a ++ b) = pipesOf n p a ++ pipesOf n (p + a.length) b
  | p, [], b => by simp [pipesOf]
  | p, none :: r, b => by simp [pipesOf, pipesOf_app n (p + 1) r b]; congr 1; omega
  | p, some l :: r, b => by simp [pipesOf, pipesOf_app n (p + 1) r b]; congr 1; omega
theorem StnA.but2 {C : Addr} {H H' : Hp} (k : ∀ b o, (∀ ps, o ≠ .tbl ps) → (∀ xs, o ≠ .lst xs) → H b = some o → H' b = some o) {v : V} {t : Stn} (h : StnA C H v t) : StnA C H' v t := by
  obtain ⟨a, dx, p, ps, e, h1, h2, pr⟩ := h
  exact ⟨a, dx, p, ps, e, k _ _ (fun _ z => nomatch z) (fun _ z => nomatch z) h1, k _ _ (fun _ z => nomatch z) (fun _ z => nomatch z) h2, sgA_all (fun b xs e => k b _ (fun _ z => nomatch z) (fun _ z => nomatch z) e) pr⟩
/-- all but lists and tables stay -/
def NL (H H' : Hp) : Prop := ∀ b o, (∀ ps, o ≠ .tbl ps) → (∀ xs, o ≠ .lst xs) → H b = some o → H' b = some o
theorem NL.of {H H' : Hp} (s : Same H H') : NL H H' := fun b o _ _ e => s b o e
theorem NL.trans {H H1 H2 : Hp} (a : NL H H1) (b : NL H1 H2) : NL H H2 := fun x o t n e => b x o t n (a x o t n e)
theorem NL.tups {H H' : Hp} (a : NL H H') : Tups H H' := fun b xs e => a b _ (fun _ z => nomatch z) (fun _ z => nomatch z) e
theorem NL.at {H : Hp} {L : Addr} {xs : List V} {o : HO} (h : H L = some (.lst xs)) : NL H (upd H L o) := fun b u _ n e => by
  rw [upd_ne (fun z => by rw [z, h] at e; exact n xs (Option.some.inj e).symm)]
  exact e
theorem stn_all {C : Addr} {H H' : Hp} (k : NL H H') : ∀ {vs : List V} {ts : List Stn}, Paired (StnA C H) vs ts → Paired (StnA C H') vs ts
  | _, _, .nil => .nil
  | _, _, .cons r q => .cons (r.but2 k) (stn_all k q)
theorem pipe_all {H H' : Hp} (k : Tups H H') : ∀ {vs : List V} {ts : List Pipe}, Paired (PipeA H) vs ts → Paired (PipeA H') vs ts
  | _, _, .nil => .nil
  | _, _, .cons ⟨t, e, h⟩ q => .cons ⟨t, e, k _ _ h⟩ (pipe_all k q)
theorem LnA.keep {H H' : Hp} (k : Tups H H') {v : V} : ∀ {l : Ln}, LnA H v l → LnA H' v l
  | none, h => h
  | some _, ⟨t, e, h⟩ => ⟨t, e, k _ _ h⟩
def dflds (S Pp : Addr) : List (Str × V) := [("own_stations", .ref S), ("own_pipes", .ref Pp)]
structure DrA (CD C : Addr) (H : Hp) (d S Pp : Addr) (ts : List Stn) (ps : List Pipe) : Prop where
  ob : ∃ dx, H d = some (.ins CD dx (dflds S Pp))
  st : ∃ vs, H S = some (.lst vs) ∧ Paired (StnA C H) vs ts
  pp : ∃ ws, H Pp = some (.lst ws) ∧ Paired (PipeA H) ws ps
  ne : S ≠ Pp
structure DrC (K : PySem.W.Frag) (mg : Str → Option Value) (CD : Addr) : Prop where
  cl : Cls K CD
  nS : NoAttr K CD "own_stations"
  nP : NoAttr K CD "own_pipes"
theorem pfD (x y : V) : putF "own_pipes" y [("own_stations", x)] = ([("own_stations", x), ("own_pipes", y)] : List (Str × V)) := by
  show (if ("own_stations" : Str) = "own_pipes" then _ else _) = _
  rw [if_neg (by decide +kernel)]
  rfl
def spDrInit (CD C : Addr) : Sp := fun vs H Q _ => ∃ d dx, vs = [.ref d] ∧ H d = some (.ins CD dx []) ∧ ∀ H' S Pp, (∀ b o, b ≠ d → H b = some o → H' b = some o) → H S = none → H Pp = none → DrA CD C H' d S Pp [] [] → Q .non H'
def spAdd (CD C : Addr) : Sp := fun vs H Q _ => ∃ (d S Pp Ll : Addr) (v : V) (t : Stn) (ts : List Stn) (ps : List Pipe) (lv : List V) (ls : List Ln), vs = [.ref d, v, .ref Ll] ∧ DrA CD C H d S Pp ts ps ∧ StnA C H v t ∧ H Ll = some (.lst lv) ∧ Paired (LnA H) lv ls ∧ Ll ≠ S ∧ Ll ≠ Pp ∧ ts.length ≤ 1000 ∧ ps.length ≤ 1000 ∧ ls.length ≤ 1000 ∧
  ∀ H', (∀ b o, b ≠ S → b ≠ Pp → H b = some o → H' b = some o) → DrA CD C H' d S Pp (ts ++ [t]) (ps ++ pipesOf ts.length 0 ls) → Q (.int ts.length) H'
section
variable {P : Program} {w : World} {K : PySem.W.Frag} {mg : Str → Option Value} {base : Heap} {aS a1 a2 aL aT : Addr} {f : Addr} {fd : FuncData} {C CD : Addr}
end
end FY


set_option Elab.async false
set_option linter.all false
set_option maxRecDepth 100000
set_option maxHeartbeats 4000000
namespace FY
def linesFrom : Nat → List Stn → List (Nat × Nat)
  | _, [] => []
  | n, t :: r => (List.range t.outs).map (fun k => (n, k)) ++ linesFrom (n + 1) r
theorem linesFrom_app : ∀ (n : Nat) (a b : List Stn), linesFrom n (a ++ b) = linesFrom n a ++ linesFrom (n + a.length) b
  | n, [], b => by simp [linesFrom]
  | n, t :: r, b => by
    simp only [List.cons_append, linesFrom, List.length_cons, linesFrom_app (n + 1) r b, List.append_assoc]
    congr 3
    omega
theorem mem_lines : ∀ {n : Nat} {ts : List Stn} {x : Nat × Nat}, x ∈ linesFrom n ts → ∃ i t, ts[i]? = some t ∧ x.1 = n + i ∧ x.2 < t.outs
  | n, [], x, h => by simp [linesFrom] at h
  | n, t :: r, x, h => by
    simp only [linesFrom, List.mem_append, List.mem_map, List.mem_range] at h
    rcases h with ⟨k, hk, rfl⟩ | h
    · exact ⟨0, t, rfl, rfl, hk⟩
    · obtain ⟨i, u, hu, e, hl⟩ := mem_lines h
      exact ⟨i + 1, u, by simpa using hu, by omega, hl⟩
theorem lines_nodup : ∀ (n : Nat) (ts : List Stn), (linesFrom n ts).Nodup
  | n, [] => List.nodup_nil
  | n, t :: r => by
    refine List.nodup_append.mpr ⟨?_, lines_nodup (n + 1) r, ?_⟩
    · refine List.Pairwise.map _ ?_ (List.nodup_range (n := t.outs))
      intro a b h e
      exact h (Prod.mk.inj e).2
    · intro a ha b hb e
      subst e
      obtain ⟨k, _, rfl⟩ := List.mem_map.mp ha
      obtain ⟨i, u, _, e, _⟩ := mem_lines hb
      have : n = n + 1 + i := e
      omega
def sumIns : List Stn → Nat
  | [] => 0
  | t :: r => t.ins + sumIns r
theorem sumIns_app : ∀ a b : List Stn, sumIns (a ++ b) = sumIns a + sumIns b
  | [], b => by simp [sumIns]
  | t :: r, b => by simp [sumIns, sumIns_app r b]; omega
def pb (p : Pipe) : Nat × Nat := (p.1, p.2.1)
def pe (p : Pipe) : Nat × Nat := (p.2.2.1, p.2.2.2)
end FY

set_option Elab.async false
set_option linter.all false
set_option maxRecDepth 100000
set_option maxHeartbeats 4000000
/-! != by an own ==, of instances and of tuples of them; a tuple times 0 and 1 -/
namespace FYR
open PySem PySem.Spec PyProof.Rows L2
open AutoSeq1 (wpAny_loadPart')
/-! ### tuple != tuple, all items equal -/
section
variable {prog : Program} {w : World} {A : Around} {R : Result → Shared → Prop}
theorem tup_ne (l b : Addr) (xs ys : Array Value) (n m : Nat) (d1 d2 : Option Addr) (s1 s2 : Array (Option Value)) (same : xs.size = ys.size) (G : Nat → Shared → Prop)
    (one : ∀ i (h1 : i < xs.size) (h2 : i < ys.size) s, G i s → wpAny (model prog w) A.in1 (eqBool xs[i] ys[i]) (fun r s' => r = true ∧ G (i + 1) s') (fun e s' => R (.error e) s') s)
    (fin : ∀ s, G xs.size s → R (.ok (.ret (.bool false))) s) {s : Shared} (hl : s.heap.get? l = some { cls := .type "tuple", dict := d1, data := .seq xs n, slots := s1 }) (hb : s.heap.get? b = some { cls := .type "tuple", dict := d2, data := .seq ys m, slots := s2 }) (g0 : G 0 s) :
    wpAny (model prog w) A.in1 (Builtin.«tuple.__ne__» ⟨[.ref l, .ref b], []⟩) (GQ.FinOf prog w A R) (fun e s' => R (.error e) s') s := by
  have sub2 := AutoSeq1.sub_tuple_tuple
  have zl : (xs.toList.zip ys.toList).length = xs.size := by simp [same]
  have g00 := g0
  obtain ⟨hp, gg, dd, tk, os⟩ := s
  wp_walk using wpAny_loadPart' hl, wpAny_loadPart' hb, wpAny_forIn_list _ (fun rest acc s' => acc.1 = none ∧ ∃ i, rest = (xs.toList.zip ys.toList).drop i ∧ i ≤ xs.size ∧ G i s') _
  case turn =>
    rintro ⟨u, v⟩ rest acc s' ⟨ea, i, er, le, gi⟩
    have lt : i < (xs.toList.zip ys.toList).length := Nat.lt_of_not_le fun q => by rw [List.drop_of_length_le q] at er; cases er
    have h1 : i < xs.size := by rw [← zl]; exact lt
    have h2 : i < ys.size := by rw [← same]; exact h1
    rw [List.drop_eq_getElem_cons lt] at er
    injection er with euv erest
    obtain ⟨rfl, rfl⟩ : u = xs[i] ∧ v = ys[i] := ⟨by simpa using congrArg Prod.fst euv, by simpa using congrArg Prod.snd euv⟩
    refine wpAny_bind (wpAny_mono (one i h1 h2 s' gi) (fun r s2 q2 => ?_) fun _ _ x => x)
    obtain ⟨rfl, q2⟩ := q2
    wp_walk
    exact ⟨rfl, i + 1, erest, h1, q2⟩
  case fin =>
    rintro ⟨a1, a2⟩ s' ⟨ea, i, er, le, gi⟩
    simp only at ea
    subst ea
    have ge : xs.size ≤ i := by
      rw [← zl]
      exact Nat.le_of_not_lt fun q => by rw [List.drop_eq_getElem_cons q] at er; cases er
    obtain rfl : i = xs.size := by omega
    have z := fin s' gi
    wp_walk
    simpa [Builtin.Tuple.tupleCompareSizes, same] using z
  case h => exact ⟨rfl, 0, rfl, Nat.zero_le _, g00⟩
end
def rNeG (D : Eqv) : R2 := fun x y H Q => D x y H ∧ ∀ H', Ext H H' → Q (.bl false) H'
section
variable {X : Cx} {n : Nat} {D : Eqv}
theorem op_neTupG (mon : Mon D) (eqs : EqG X n D) (hr : Room (n + 1) X.A) : OpR X (compareOp .NotEq) (rNeG (DTup X.K D)) := by
  intro pins s σ H x y v u Q I rx ry h
  obtain ⟨⟨a, b, xs, ys, rfl, rfl, ha, hb, p⟩, q⟩ := h
  cases rx
  cases ry
  obtain ⟨its, r, e, z⟩ := I.tuple ha
  obtain ⟨its2, r2, e2, z2⟩ := I.tuple hb
  have sb : Sub X (n + 1) X.A := ⟨hr, rfl⟩
  have hsz : its.toArray.size = its2.toArray.size := by rw [List.size_toArray, List.size_toArray, ← r.length, ← r2.length]; exact p.1
  obtain ⟨⟨c1, d1, dt1, s1⟩, g1, k1, n1, m1⟩ := e
  obtain ⟨⟨c2, d2, dt2, s2⟩, g2, k2, n2, m2⟩ := e2
  simp only at k1 m1 k2 m2
  subst k1 m1 k2 m2
  show wpAny (model X.prog X.w) X.A (richCompare .NotEq (.ref a) (.ref b)) (EP X pins σ Q) X.xe s
  refine wpAny_richCompare_same_room (op := .NotEq) ⟨_, g1, rfl⟩ ⟨_, g2, rfl⟩ F.slot_tuple_ne (GQ.call_here F.slot_tuple_ne ⟨_, g1, rfl⟩ F.entry_tuple_ne (F.args_tuple_ne_2 _ _) ?_) hr.units0
  exact tup_ne (R := wants (fun v s' => v ≠ .notImplemented ∧ EP X pins σ Q v s') X.xe) a b its.toArray its2.toArray n1 n2 d1 d2 s1 s2 hsz (fun _ s' => LoopI X pins σ H s') (fun i h1 h2 s' q => turnG mon eqs sb p r r2 i h1 h2 s' q)
    (fun s' ⟨H', I', ex⟩ => ⟨(fun z => nomatch z), .bl false, H', I', rfl, q H' ex⟩) g1 g2 ⟨H, I, Ext.rfl'⟩
end
/-! ### instance != instance by the class's own == -/
section
variable {M : Model} {prog : Program} {w : World} {A : Around} {E : Value → Shared → Prop} {s : Shared} {K : PySem.W.Frag} {x C : Addr} {ox : Obj} {od : Option Obj}
theorem bound_ne {args : List Value} {Q : Option Value → Shared → Prop} (kin : K.In s.heap) (ia : PySem.W.InstAt s.heap x ox C od) (hs : PySem.W.findIn K (.ref C) "__ne__" = some (some (.builtin "object.__ne__")))
    (h : wpAny M A (call (.builtin "object.__ne__") (.ref x :: args)) (fun v => Q (some v)) E s) : wpAny M A (callSpecialIfBound? (.ref x) "__ne__" args) Q E s := by
  simp only [callSpecialIfBound?, bindSpecialIfBound?]
  have tail : wpAny M A (call (.builtin "object.__ne__") ([.ref x] ++ args) >>= fun v => pure (some v)) Q E s := wpAny_bind (wpAny_mono h (fun v s' z => wpAny_pure z) fun _ _ z => z)
  refine wpAny_holding (wpAny_bind (wpAny_bind (wpAny_bind (ia.type.here ((PySem.W.looks_findIn kin hs).here ?_)))))
  refine wpAny_bind (wpAny_askSetting (wpAny_ite ?_))
  have bnd := F.cmp_object.ne.bind (.ref x)
  split
  · exact wpAny_bind (wpAny_of_eq bnd (wpAny_pure (by exact tail)))
  · exact wpAny_tryCatch (wpAny_bind (wpAny_of_eq bnd (wpAny_pure (by exact tail))))
theorem entry_ne {y f : Addr} {Q : Fin → Shared → Prop} (hu : A.units < cLine) (kin : K.In s.heap) (ia : PySem.W.InstAt s.heap x ox C od) (hs : PySem.W.findIn K (.ref C) "__eq__" = some (some (.ref f))) (hf : PySem.W.isFn K (.ref f) = true)
    (h : wpAny M A (call (.ref f) [.ref x, .ref y]) (fun v s' => v = .bool true ∧ Q (.done (.ret (.bool false))) s') E s) : wpAny M A (Builtin.«object.__ne__» ⟨[.ref x, .ref y], []⟩) Q E s := by
  unfold Builtin.«object.__ne__»
  repeat (first
    | with_reducible refine wpAny_cRoomFor hu ?_
    | (refine wpAny_bind (m := callSpecialIfBound? (.ref x) (Str.ofString "__eq__") [.ref y]) (PySem.W.ifBound_K kin ia hs hf (wpAny_mono h (fun r s' z => by
          obtain ⟨rfl, q⟩ := z
          repeat (first | exact q | exact wpAny_pure q | exact wpAny_truthy_bool q | (refine wpAny_bind (m := truthy (.bool _)) (wpAny_truthy_bool ?_)) | wp_step)) fun _ _ z => z)))
    | wp_step)
end
section
variable {X : Cx} {n : Nat} {CX : CXT} {C f : Addr} {fd : FuncData} {ps : List Str} {Rl : Addr → Addr → Hp → Prop} {E : XK}
theorem op_neIns (Fn : FnOk X.prog X.w X.K X.mg X.base CX n f fd ps (spEq Rl)) (hs : PySem.W.findIn X.K (.ref C) "__eq__" = some (some (.ref f))) (hn : PySem.W.findIn X.K (.ref C) "__ne__" = some (some (.builtin "object.__ne__")))
    (hm : PySem.W.mroIn X.K C (.type "object") = some true) (hf : PySem.W.isFn X.K (.ref f) = true) (hb : Binds X.K fd ps []) (hx : Passes CX X E) (hr : Room (n + 1) X.A) : OpR X (compareOp .NotEq) (rNeG (DIns C Rl)) := by
  intro pins s σ H x y v u Q I rx ry h
  obtain ⟨⟨a, b, dx, dy, fs, gs, rfl, rfl, ha, hb', hR⟩, q⟩ := h
  cases rx
  cases ry
  obtain ⟨mA, J, _⟩ := ins_get I.hok ha
  obtain ⟨mB, J2, _⟩ := ins_get I.hok hb'
  obtain ⟨od, J, _⟩ := J.look
  obtain ⟨od2, J2, _⟩ := J2.look
  have hsp : spEq Rl [.ref a, .ref b] H (fun v H' => v = .bl true ∧ Ext H H') E := ⟨a, b, rfl, hR, fun H' e => ⟨rfl, e⟩⟩
  have len := Fn.len _ _ _ _ hsp
  have e1 : Env0 X.prog X.w X.K X.mg X.base X.A.in1 X.stack s H := I.env0.in1
  have run : wpAny (model X.prog X.w) X.A.in1 (call (.ref f) [.ref a, .ref b]) (fun v s' => v = .bool true ∧ ∃ H', Inv X pins σ H' s' ∧ Ext H H') X.xe s := by
    refine wpAny_call (codeAny_mono (Fn.run X.A.in1 X.stack s H ⟨[.ref a, .ref b], []⟩ [.ref a, .ref b] [.ref a, .ref b] _ E hr.in1 e1 (by
      have z := hb s [.ref a, .ref b] I.kIn (by simpa using len)
      simpa using z) (.cons rfl (.cons rfl .nil)) hsp) fun r s' hq => ?_)
    cases r with
    | error e => exact hx pins σ H s e s' I hq
    | ok fl =>
      cases fl with
      | ret w =>
        obtain ⟨z, H', I', rz, ez, ex⟩ := I.after hq
        subst ez
        cases rz
        exact ⟨rfl, H', I', ex⟩
      | next => exact False.elim hq
      | brk => exact False.elim hq
      | cont => exact False.elim hq
  have u0 : X.A.units < cLine := hr.units0
  have u1 : X.A.in1.units < cLine := hr.in1.units0
  have ne1 : wpAny (model X.prog X.w) X.A (call (.builtin "object.__ne__") [.ref a, .ref b]) (fun v s' => v = .bool false ∧ ∃ H', Inv X pins σ H' s' ∧ Ext H H') X.xe s := by
    refine wpAny_call (codeAny_call_builtin F.cmp_object.ne.plain F.cmpEntry_ne (PySem.W.check_slot F.cmpKind_ne F.cmpSplit_ne (J.type.andThen (PySem.W.looks_mroIn I.kIn hm)) (F.cmpArgs_ne _ _) ?_))
    refine entry_ne (A := X.A.in1) u1 I.kIn J hs hf (wpAny_mono run (fun v s' z => ?_) fun _ _ z => z)
    exact ⟨z.1, rfl, z.2⟩
  have try1 : wpAny (model X.prog X.w) X.A (tryCompare (.ref a) "__ne__" (.ref b)) (fun r s' => r = some (.bool false) ∧ ∃ H', Inv X pins σ H' s' ∧ Ext H H') X.xe s := by
    unfold tryCompare
    refine wpAny_bind (bound_ne I.kIn J hn (wpAny_mono ne1 (fun v s' z => ?_) fun _ _ z => z))
    obtain ⟨rfl, z⟩ := z
    exact wpAny_pure ⟨rfl, z⟩
  show wpAny (model X.prog X.w) X.A (richCompare .NotEq (.ref a) (.ref b)) (EP X pins σ Q) X.xe s
  unfold richCompare
  simp only [oneThing_ref]
  refine wpAny_holding (wpAny_bind (wpAny_cRoomFor u0 ?_))
  refine wpAny_bind (J.type.here (wpAny_bind (J2.type.here ?_)))
  split
  · rename_i z
    simp at z
  · rw [cmpInfo_NotEq]
    dsimp only
    refine wpAny_bind (wpAny_pure ?_)
    simp only [Bool.false_eq_true, if_false]
    refine wpAny_bind (wpAny_mono try1 (fun r s' z => ?_) fun _ _ z => z)
    obtain ⟨rfl, H', I', ex⟩ := z
    exact wpAny_pure ⟨.bl false, H', I', rfl, q H' ex⟩
end
/-! ### a tuple times 0 or 1 -/
theorem tup_mul1 (l : Addr) (xs : Array Value) (n : Nat) (dd : Option Addr) (sl : Array (Option Value)) (u : Tok) :
    Meets (Builtin.«tuple.__mul__» ⟨[.ref l, .int 1 u], []⟩) (fun _ R s => s.heap.get? l = some { cls := .type "tuple", dict := dd, data := .seq xs n, slots := sl } ∧ R (.ok (.ret (Value.ref l))) s) :=
  .of_wp fun prog w A R s h => by
    obtain ⟨hp, g, d, tk, os⟩ := s
    obtain ⟨hl, h⟩ := h
    have f1 := AutoSeq1.idx_int
    have c1 : (xs.isEmpty || (1 : Int) == 1) = true := by simp
    wp_walk using wpAny_loadPart' hl
    exact ⟨_, rfl, h⟩
theorem tup_mul0 (l : Addr) (xs : Array Value) (n : Nat) (dd : Option Addr) (sl : Array (Option Value)) (u : Tok) (ne : xs.isEmpty = false) :
    Meets (Builtin.«tuple.__mul__» ⟨[.ref l, .int 0 u], []⟩) (fun _ R s => s.heap.get? l = some { cls := .type "tuple", dict := dd, data := .seq xs n, slots := sl } ∧
      R (.ok (.ret (Value.ref s.heap.objs.size))) { s with heap := s.heap.push { cls := Value.type "tuple", data := Data.seq #[] } }) :=
  .of_wp fun prog w A R s h => by
    obtain ⟨hp, g, d, tk, os⟩ := s
    obtain ⟨hl, h⟩ := h
    have f1 := AutoSeq1.idx_int
    have c1 : (xs.isEmpty || (0 : Int) == 1) = false := by rw [ne]; rfl
    have c2 : (decide ((0 : Int) ≤ 0) || xs.isEmpty) = true := by simp
    wp_walk using wpAny_loadPart' hl
    exact ⟨_, rfl, h⟩
def rRepA (K : PySem.W.Frag) : R2 := fun x y H Q => ∃ (l : Addr) (k : Nat) (xs : List V), x = .ref l ∧ y = .int (k : Nat) ∧ SqT K H l xs ∧ xs ≠ [] ∧ k ≤ 1000 ∧ xs.length ≤ 1000 ∧ (k = 1 → Q (.ref l) H) ∧ (k ≠ 1 → ∀ p, H p = none → Q (.ref p) (upd H p (.tup (List.replicate k xs).flatten)))
theorem kRepA {X : Cx} (K : PySem.W.Frag) (hK : X.K = K) : OpR X (binaryOp .Mult) (rRepA K) := by
  subst hK
  intro pins s σ H x y v u Q I rx ry h
  obtain ⟨l, k, xs, rfl, rfl, hT, hne, hk, hz, q1, q2⟩ := h
  match k, hk, q1, q2, ry with
  | k + 2, hk, q1, q2, ry => exact op_repT pins s σ H _ _ v u Q I rx ry ⟨l, _, xs, rfl, rfl, hT, hne, by omega, by omega, hz, fun p hp => by rw [Int.toNat_natCast]; exact q2 (by omega) p hp⟩
  | 0, hk, q1, q2, ry =>
    cases rx
    obtain ⟨t, rfl⟩ := ry
    obtain ⟨its, r, ⟨⟨cls, dd, data, sl⟩, ho, hc, n, hd⟩, hs⟩ := I.tuple hT
    simp only at hc hd
    subst hc hd
    have ie : its.toArray.isEmpty = false := by
      cases r with
      | nil => exact absurd rfl hne
      | cons _ _ => rfl
    refine wpAny_binaryOp_repeat_ref (T := "tuple") (U := "int") (by decide) ⟨_, ho, rfl⟩ (fun s' => typeIs_int s' _ t) noFill_tuple_mul F.fills_int_mul F.slot_int_rmul repeat_tuple F.slot_int_index.lookup
      (call_meets F.slot_int_rmul (typeIs_int s _ t) F.entry_int_rmul (F.args_int_rmul_2 _ _) (int_rmul_tuple _ t l its.toArray n dd sl)
        ⟨ho, rfl, ⟨_, ho, rfl⟩, call_meets F.slot_tuple_mul ⟨_, ho, rfl⟩ F.entry_tuple_mul (F.args_tuple_mul_2 _ _) (tup_mul0 l its.toArray n dd sl t ie) ⟨ho, ?_⟩⟩)
    refine ⟨.ref s.heap.objs.size, _, I.laid (t' := s.toks) (o := .tup []) (fun b ob q => Heap.get?_push_of_some _ q) (Nat.le_refl _) ⟨Nat.zero_le _, [], .nil, IsTup.new _ _⟩, rfl, q2 (by decide) _ (I.hok.fresh (Nat.le_refl _))⟩
  | 1, hk, q1, q2, ry =>
    cases rx
    obtain ⟨t, rfl⟩ := ry
    obtain ⟨its, r, ⟨⟨cls, dd, data, sl⟩, ho, hc, n, hd⟩, hs⟩ := I.tuple hT
    simp only at hc hd
    subst hc hd
    refine wpAny_binaryOp_repeat_ref (T := "tuple") (U := "int") (by decide) ⟨_, ho, rfl⟩ (fun s' => typeIs_int s' _ t) noFill_tuple_mul F.fills_int_mul F.slot_int_rmul repeat_tuple F.slot_int_index.lookup
      (call_meets F.slot_int_rmul (typeIs_int s _ t) F.entry_int_rmul (F.args_int_rmul_2 _ _) (int_rmul_tuple _ t l its.toArray n dd sl)
        ⟨ho, rfl, ⟨_, ho, rfl⟩, call_meets F.slot_tuple_mul ⟨_, ho, rfl⟩ F.entry_tuple_mul (F.args_tuple_mul_2 _ _) (tup_mul1 l its.toArray n dd sl t) ⟨ho, ?_⟩⟩)
    exact ⟨.ref l, H, I, rfl, q1 rfl⟩
theorem kInD {X : Cx} (K : PySem.W.Frag) (hK : X.K = K) (hu : X.A.units + 65 < cLine) : OpR X (compareOp .In) (rInD K) := by subst hK; exact op_inD hu
theorem kNotInD {X : Cx} (K : PySem.W.Frag) (hK : X.K = K) (hu : X.A.units + 65 < cLine) : OpR X (compareOp .NotIn) (rNotInD K) := by subst hK; exact op_notInD hu
theorem kSortT {X : Cx} (K : PySem.W.Frag) (hK : X.K = K) {d : Nat} {B : Int} (hd : 1 ≤ d) : CallR X (.builtin "sorted") (rSortU K d B) := by subst hK; exact cr_sortT hd
end FYR

set_option Elab.async false
set_option linter.all false
set_option maxRecDepth 100000
set_option maxHeartbeats 4000000
/-! dicts whose keys are tuples: comprehensions, update; enumerate of a tuple; a tuple taken no times or once -/
namespace FYR
open PySem PySem.Spec PyProof.Rows L2
/-! ### dict comprehensions -/
section
variable {X : Cx} {pins : List (Addr × Obj)} {σ : L2.St} {H : Hp} {s : Shared}
theorem dT_set {A : Around} {E : Value → Shared → Prop} {D b : Addr} {kvs : List (List Key × V)} {k : List Key} {z : V} {r : Value} {G : Unit → Shared → Prop} (hu : A.units < cLine) (I : Inv X pins σ H s)
    (hD : H D = some (.dT kvs)) (hb : H b = some (.tup (k.map kV))) (hl : kvs.length < sizeLine) (rz : RelV z r) (h : ∀ s', Inv X pins σ (upd H D (.dT (putK kvs k z))) s' → G () s') :
    wpAny (model X.prog X.w) A (dictSet D (.ref b) r) G E s := by
  obtain ⟨n1, nD, xs, rel, raw⟩ := dt_of I.hok hD
  have n2 := Paired.length rel
  have n3 := length_putK kvs k z
  refine wpAny_dictSet_heap (hsz := by omega) (show (tupleKind (mixKind X.prog X.w)).room A from hu) (key_of I.hok hb) raw fun h2 raw2 same => h _ ?_
  obtain ⟨q, es, ep, g1, g2, g3, g4, _, g5⟩ := raw2
  have keepT : ∀ c ys, H c = some (.tup ys) → upd H D (.dT (putK kvs k z)) c = some (.tup ys) := fun c ys ec => by
    rw [upd_ne (fun y => by rw [y, hD] at ec; cases ec)]
    exact ec
  exact d_write I (by rw [hD]; trivial) same ⟨q, g1⟩ ⟨by omega, nD, _, (rel.put k hb rz).keeps keepT, q, es, ep, g1, g2, g3, g4, g5⟩
end
/-- the reading: D is the new dict -/
def tDcT (wi : TI) (g : TG) (tt : TT) (tk tv : TE) (own : List Nat) : TE := fun σ H Q => wi σ H fun J H1 => ∀ D, H1 D = none →
  ∃ W : Nat → Nat → Hp → Prop, (∃ m, W 0 m (upd H1 D (.dT []))) ∧ ∀ i m H2, W i m H2 →
    (J.stop i H2 ∧ Q (.ref D) H2) ∨ (J.go i H2 ∧ ∃ Nx : Hp → Prop, (∀ H', Nx H' → ∃ m', m' < m ∧ W (i + 1) m' H') ∧
      ∀ x H', J.yld i H2 x H' → g x (wipe σ own) H' fun σ2 H3 => wipe σ2 own = wipe σ own ∧ tt σ2 H3 fun b H4 =>
        if b = true then tk σ2 H4 fun y H5 => tv σ2 H5 fun z H6 => ∃ kvs k a, y = .ref a ∧ H6 a = some (.tup (k.map kV)) ∧ H6 D = some (.dT kvs) ∧ kvs.length < sizeLine ∧ Nx (upd H6 D (.dT (putK kvs k z))) else Nx H4)
section
variable {X : Cx}
abbrev cvs (X : Cx) (scope : Scope) (n : Addr) : Env := compEnvC scope (cellsFrom (n + 1) scope.names (cloFrom X.env.cells scope.names [])) n X.env
theorem dcT_run {pins : List (Addr × Obj)} {s : Shared} {σ : L2.St} {H : Hp} {Q : VK} {kx vx tg iter : Expr} {ifs : List Expr} {scope : Scope} {own : List (Str × Nat)} {p1 p2 : Pos} {wi : TI} {g : TG} {tt : TT} {tk tv : TE} {sto : Option (Value → Sem Unit)} {Z : Value → Shared → Prop}
    (calm : X.calm = true) (nd : X.N.Nodup) (hu : X.A.units < cLine) (I : Inv X pins σ H s) (pi : PI X tg iter wi) (bo : BlkOk X.N X.env.scope scope own)
    (pG : ∀ (s' : Shared) (H' : Hp) (c : Addr) (l : List (Str × Addr)) (fs : List Addr), PG (X.blk s' H' scope (compEnvC scope l c X.env) fs) tg g)
    (pT : ∀ (s' : Shared) (H' : Hp) (c : Addr) (l : List (Str × Addr)) (fs : List Addr), PTs (X.blk s' H' scope (compEnvC scope l c X.env) fs) ifs tt)
    (pK : ∀ (s' : Shared) (H' : Hp) (c : Addr) (l : List (Str × Addr)) (fs : List Addr), PE (X.blk s' H' scope (compEnvC scope l c X.env) fs) kx tk)
    (pV : ∀ (s' : Shared) (H' : Hp) (c : Addr) (l : List (Str × Addr)) (fs : List Addr), PE (X.blk s' H' scope (compEnvC scope l c X.env) fs) vx tv)
    (nf : ∀ y, foldedSetIterable iter X.env y = pure y) (rd : tDcT wi g tt tk tv (own.map (·.2)) σ H Q)
    (last : ∀ D c s' m H', Inv X pins σ H' s' → Q (.ref D) H' → s'.heap.Ns c m → FpOk X pins H' c → compPost (model X.prog X.w) X.A X.xe sto Z (.ref D) c (.ok .next) s') :
    wpAny (model X.prog X.w) X.A (comprehension (.DictComp kx vx [⟨tg, iter, ifs, 0⟩] scope p1) scope X.env p2 newDict false (eval iter X.env) sto) Z X.xe s := by
  have clo : ∀ y ∈ scope.names, y.2 = .free → ∃ c, X.env.cells.lookup y.1 = some c := fun y my e => (bo.free y my e).elim (fun z => I.ok.has _ (.inl z)) fun z => I.ok.has _ (.inr z)
  refine wpAny_comprehension_free (use := sto) rfl nf (closure_ok clo) bo.kind (fun y my e => (bo.uniq y my).trans (by rw [e]))
    (thn (pi.run pins s σ H _ I rd) fun _ _ hx => thn hx fun _ sA hA => ?_)
  obtain ⟨it, fp, tn, J, HA, rfl, IA, TR, tA, fA, rA⟩ := hA
  refine wpAny_newObj_type (newEnv_comp ?_)
  obtain ⟨D, eD⟩ : ∃ D, D = sA.heap.objs.size := ⟨_, rfl⟩
  have freeD : HA D = none := by rw [eD]; exact IA.hok.fresh (Nat.le_refl _)
  obtain ⟨W, ⟨m0, w0⟩, steps⟩ := rA D freeD
  obtain ⟨sB, eB⟩ : ∃ sB : Shared, sB = { sA with heap := sA.heap.push { cls := .type "dict", data := .dict #[] } } := ⟨_, rfl⟩
  have hB : sB.heap = sA.heap.push { cls := .type "dict", data := .dict #[] } := by rw [eB]
  obtain ⟨HB, eHB⟩ : ∃ HB, HB = upd HA D (.dT []) := ⟨_, rfl⟩
  have IB : Inv X pins σ HB sB := by
    rw [eB, eHB]
    refine IA.laid (t' := sA.toks) (fun _ _ e => Heap.get?_push_of_some _ e) (Nat.le_of_eq eD.symm) ?_
    rw [eD]
    exact dt_empty sA.heap IA.big
  have lowA : ∀ b ∈ fp, b < sA.heap.objs.size := fun b mb => let ⟨o, e, _⟩ := TR.obj _ _ tA b mb; Heap.lt_size e
  have fB : ∀ b ∈ fp, FpOk X pins HB b ∧ b < sB.heap.objs.size := fun b mb => by
    have lt := lowA b mb
    refine ⟨⟨?_, (fA b mb).2⟩, ?_⟩
    · rw [eHB, upd_ne (fun z => by rw [z, eD] at lt; exact Nat.lt_irrefl _ lt)]
      exact (fA b mb).1
    · rw [hB, Heap.size_push]
      exact Nat.lt_succ_of_lt lt
  have tB : tn 0 sB.heap := TR.keep _ _ _ tA fun b _ o e => by rw [hB]; exact Heap.get?_push_of_some _ e
  have IC := block_start IB bo nd fB
  have eG := pG sB HB sB.heap.objs.size (cellsFrom (sB.heap.objs.size + 1) scope.names (cloFrom X.env.cells scope.names [])) fp
  have eT := pT sB HB sB.heap.objs.size (cellsFrom (sB.heap.objs.size + 1) scope.names (cloFrom X.env.cells scope.names [])) fp
  have eK := pK sB HB sB.heap.objs.size (cellsFrom (sB.heap.objs.size + 1) scope.names (cloFrom X.env.cells scope.names [])) fp
  have eV := pV sB HB sB.heap.objs.size (cellsFrom (sB.heap.objs.size + 1) scope.names (cloFrom X.env.cells scope.names [])) fp
  rw [← eD, ← eB]
  show codeAny _ _ (.compStart (.DictComp kx vx [⟨tg, iter, ifs, 0⟩] scope p1) 0 (.ref it) (.ref D) (cvs X scope sB.heap.objs.size)) (compPost (model X.prog X.w) X.A X.xe sto Z (.ref D) sB.heap.objs.size) { sB with heap := pushCells (sB.heap.push { cls := .type "dict", data := .dict #[] }) scope.names }
  have noneB : ∀ b ∈ fp, HB b = none := fun b mb => (fB b mb).1.1
  rw [← eHB] at w0
  obtain ⟨ce, ece⟩ : ∃ ce, ce = cvs X scope sB.heap.objs.size := ⟨_, rfl⟩
  have locC : ce.locals = sB.heap.objs.size := by rw [ece]; rfl
  change PG (X.blk sB HB scope (cvs X scope sB.heap.objs.size) fp) tg g at eG
  change PTs (X.blk sB HB scope (cvs X scope sB.heap.objs.size) fp) ifs tt at eT
  change PE (X.blk sB HB scope (cvs X scope sB.heap.objs.size) fp) kx tk at eK
  change PE (X.blk sB HB scope (cvs X scope sB.heap.objs.size) fp) vx tv at eV
  change Inv (X.blk sB HB scope (cvs X scope sB.heap.objs.size) fp) _ _ _ _ at IC
  rw [← ece] at eG eT eK eV IC ⊢
  clear ece
  obtain ⟨sC, eC⟩ : ∃ sC : Shared, sC = { sB with heap := pushCells (sB.heap.push { cls := .type "dict", data := .dict #[] }) scope.names } := ⟨_, rfl⟩
  rw [← eC] at IC ⊢
  have tC : tn 0 sC.heap := TR.keep _ _ _ tB fun b _ o e => by rw [eC]; exact pushCells_keeps _ _ _ _ (Heap.get?_push_of_some _ e)
  have okAt : ∀ {τ : L2.St} {HX : Hp} {sX : Shared}, Inv (X.blk sB HB scope ce fp) [] τ HX sX → (∀ b ∈ fp, HX b = none) → ∀ b ∈ fp, FpOk (X.blk sB HB scope ce fp) [] HX b := fun {τ HX sX} IX nX b mb =>
    ⟨nX b mb, (IX.ok.exf b mb).1, IX.ok.exfs b mb, .inl mb, fun x c e => (IX.ok.exf b mb).2 x c e, fun p hp => absurd (show p ∈ ([] : List (Addr × Obj)) ++ [] from hp) (by simp)⟩
  have run : codeAny (model X.prog X.w) X.A (.compLoop (.DictComp kx vx [⟨tg, iter, ifs, 0⟩] scope p1) 0 (.ref it) (.ref D) ce) (compPost (model X.prog X.w) X.A X.xe sto Z (.ref D) sB.heap.objs.size) sC := by
    refine compLoop_anyD (fun m sX => ∃ i HX, Inv (X.blk sB HB scope ce fp) [] (wipe σ (own.map (·.2))) HX sX ∧ tn i sX.heap ∧ (∀ b ∈ fp, HX b = none) ∧ W i m HX) ?_ m0 ⟨0, HB, IC, tC, noneB, w0⟩
    rintro m s1 ⟨i, H1, I1, t1, n1, w1⟩
    rcases steps i m H1 w1 with ⟨halt, qD⟩ | ⟨more, Nx, nxt, body⟩
    · refine thnF (TR.done (X.blk sB HB scope ce fp) rfl rfl rfl calm i [] s1 _ H1 (fun _ _ => False) I1 (okAt I1 n1) t1 halt) fun r s2 ⟨er, I2⟩ => ?_
      subst er
      have I3 : Inv X pins σ H1 s2 := IB.call' (ch := fp) I2.os I2.base I2.hok I2.bare fun b mb => ⟨(fB b mb).1.2.2.2.1, (fB b mb).1.2.1, (fB b mb).1.2.2.2.2.1, (fB b mb).1.2.2.2.2.2⟩
      have freeC : H1 ce.locals = none := I2.free
      obtain ⟨mm, nsC, _⟩ := I2.loc
      change s2.heap.Ns ce.locals mm at nsC
      rw [locC] at nsC freeC
      exact last D _ s2 mm H1 I3 qD nsC (IB.fpOk (Nat.le_refl _) freeC)
    · refine thnF (TR.item (X.blk sB HB scope ce fp) rfl rfl rfl calm i [] s1 _ H1 (fun _ _ => False) I1 (okAt I1 n1) t1 more) fun r s2 ⟨u, er, h2⟩ => ?_
      subst er
      refine thnF h2 fun _ s3 ⟨x, H3, I3, r3, y3, t3, n3⟩ => ?_
      refine thnF (eG.run _ s3 _ H3 x u _ (I3.pinned (okAt I3 n3) (TR.obj _ _ t3)) r3 (body x H3 y3)) fun _ s4 ⟨τ, H4, I4, wq, q4⟩ => ?_
      refine thnF (eT.run _ s4 τ H4 _ I4 q4) fun b s5 ⟨H5, I5, q5⟩ => ?_
      have close : ∀ {sX : Shared} {HX : Hp}, Inv (X.blk sB HB scope ce fp) ([] ++ pinsAt fp s3.heap) τ HX sX → Nx HX → ∃ m', m' < m ∧ ∃ j HY, Inv (X.blk sB HB scope ce fp) [] (wipe σ (own.map (·.2))) HY sX ∧ tn j sX.heap ∧ (∀ b ∈ fp, HY b = none) ∧ W j m' HY := fun {sX HX} IX nX => by
        obtain ⟨m', lt, wX⟩ := nxt HX nX
        have held : ∀ b ∈ fp, ∀ o, s3.heap.get? b = some o → sX.heap.get? b = some o ∧ HX b = none := fun b mb o e =>
          ⟨(IX.pin (b, o) (List.mem_append_right _ (List.mem_append_right _ (mem_pinsAt mb e)))).1, (IX.pin (b, o) (List.mem_append_right _ (List.mem_append_right _ (mem_pinsAt mb e)))).2.1⟩
        refine ⟨m', lt, i + 1, HX, (IX.unpinned (pins := [])).weak (by rw [← wq, wipe_length]) (fun j v e => ?_), TR.keep _ _ _ t3 fun b mb o e => (held b mb o e).1, fun b mb => ?_, wX⟩
        · exact (wipe_some (by rw [wq]; exact e)).1
        · exact let ⟨o, e, _⟩ := TR.obj _ _ t3 b mb; (held b mb o e).2
      cases b with
      | false =>
        simp only [Bool.false_eq_true, if_false] at q5 ⊢
        exact close I5 q5
      | true =>
        simp only [if_true] at q5 ⊢
        refine thnF (eK.run _ s5 τ H5 _ I5 q5) fun _ s6 ⟨yk, H6, I6, r6, q6⟩ => ?_
        refine thnF (eV.run _ s6 τ H6 _ I6 q6) fun _ s7 ⟨yv, H7, I7, r7, kvs, k, a, ek, ha, hD7, lt7, nx⟩ => ?_
        subst ek
        cases r6
        exact dT_set (X := X.blk sB HB scope ce fp) hu I7 hD7 ha lt7 r7 fun s8 I8 => close I8 nx
  exact codeAny_compStart_dict run (TR.self X.A 0 _ _ _ tC run)
theorem pe_dcT {kx vx tg iter : Expr} {ifs : List Expr} {scope : Scope} {own : List (Str × Nat)} {p1 : Pos} {wi : TI} {g : TG} {tt : TT} {tk tv : TE}
    (calm : X.calm = true) (nd : X.N.Nodup) (hu : X.A.units < cLine) (pi : PI X tg iter wi) (bo : BlkOk X.N X.env.scope scope own)
    (pG : ∀ (s' : Shared) (H' : Hp) (c : Addr) (l : List (Str × Addr)) (fs : List Addr), PG (X.blk s' H' scope (compEnvC scope l c X.env) fs) tg g)
    (pT : ∀ (s' : Shared) (H' : Hp) (c : Addr) (l : List (Str × Addr)) (fs : List Addr), PTs (X.blk s' H' scope (compEnvC scope l c X.env) fs) ifs tt)
    (pK : ∀ (s' : Shared) (H' : Hp) (c : Addr) (l : List (Str × Addr)) (fs : List Addr), PE (X.blk s' H' scope (compEnvC scope l c X.env) fs) kx tk)
    (pV : ∀ (s' : Shared) (H' : Hp) (c : Addr) (l : List (Str × Addr)) (fs : List Addr), PE (X.blk s' H' scope (compEnvC scope l c X.env) fs) vx tv)
    (nf : ∀ y, foldedSetIterable iter X.env y = pure y := by intro _; rfl) : PE X (.DictComp kx vx [⟨tg, iter, ifs, 0⟩] scope p1) (tDcT wi g tt tk tv (own.map (·.2))) :=
  ⟨fun pins s σ H Q I rd => by
    rw [arm_eval_DictComp]
    refine dcT_run calm nd hu I pi bo pG pT pK pV nf rd fun D c s' m H' I' q ns f => ⟨m, ns, fun h2 sb => ?_⟩
    obtain ⟨g0, g1, g2, g3, g4, g5⟩ := f
    exact ⟨.ref D, H', I'.turned (t' := s'.toks) (fun b o nb e => (sb.2 b nb).trans e) g0 g1 g3 g4 g5, rfl, q⟩⟩
end
end FYR

set_option Elab.async false
set_option linter.all false
set_option maxRecDepth 100000
set_option maxHeartbeats 4000000
/-! enumerate of a tuple; dict.update with tuples as keys; a tuple taken no times or once -/
namespace FYR
open PySem PySem.Spec PyProof.Rows L2
/-! ### enumerate(tuple) -/
theorem enumNew1 {v : Value} {o : Obj} {G : Heap → Prop} (B : Begins v o G) :
    Meets (Builtin.«enumerate.__new__» ⟨[.type "enumerate", v], []⟩) (fun _ R s => G s.heap ∧
      R (.ok (.ret (.ref (s.heap.push o).objs.size))) { s with heap := (s.heap.push o).push { cls := .type "enumerate", data := .fields #[.none, .bool false, .ref s.heap.objs.size, rawInt 0, .none, .none] } }) :=
  .of_wp fun prog w A R s hh => by
    obtain ⟨hp, g, d, tk, os⟩ := s
    obtain ⟨hG, hR⟩ := hh
    have hsub := sub_enumerate
    have qi : ∀ {A1 : Around} {E1 : Value → Shared → Prop} {Z : Value → Shared → Prop}, Z (.ref hp.objs.size) ⟨hp.push o, g, d, tk, os⟩ → wpAny (model prog w) A1 (pyIter v) Z E1 ⟨hp, g, d, tk, os⟩ := fun z => B.iter prog w _ _ ⟨hp, g, d, tk, os⟩ _ hG z
    wp_walk using qi
    refine wpAny_stack_any fun stk => wpAny_pure ?_
    split
    · rename_i c0 _ _ _ _ _
      cases (c0 == Value.type "enumerate") <;> (wp_walk using qi; exact ⟨_, rfl, hR⟩)
    · wp_walk using qi
      exact ⟨_, rfl, hR⟩
theorem enumCall1 {prog : Program} {w : World} {A : Around} {E : Value → Shared → Prop} {s : Shared} {v : Value} {o : Obj} {G : Heap → Prop} {Q : Value → Shared → Prop} (B : Begins v o G) (hG : G s.heap)
    (h : ∀ h', IsEnum h' (s.heap.objs.size + 1) s.heap.objs.size 0 .none → h'.get? s.heap.objs.size = some o → (∀ b o, s.heap.get? b = some o → h'.get? b = some o) → Q (.ref (s.heap.objs.size + 1)) { s with heap := h' }) :
    wpAny (model prog w) A (call (.type "enumerate") [v]) Q E s := by
  refine callType_new F.called_enumerate (by decide) (F.typeCall_enumerate_1 _) (F.newCall_enumerate_1 _) (fun ob => F.args_object_init_2 ob _) F.entry_enumerate_new (enumNew1 B) ⟨hG, ?_⟩
  have one : (s.heap.push o).objs.size = s.heap.objs.size + 1 := Heap.size_push ..
  show _ ∧ _
  rw [one]
  have isE : IsEnum ((s.heap.push o).push { cls := .type "enumerate", data := .fields #[.none, .bool false, .ref s.heap.objs.size, rawInt 0, .none, .none] }) (s.heap.objs.size + 1) s.heap.objs.size 0 .none := by
    have z := Heap.get?_push_size (s.heap.push o) (o := { cls := .type "enumerate", data := .fields #[.none, .bool false, .ref s.heap.objs.size, rawInt 0, .none, .none] }) rfl
    rw [one] at z
    exact z
  exact ⟨⟨_, isE, rfl⟩, h _ isE (Heap.get?_push_of_some _ (Heap.get?_push_size _ B.free)) fun b q x => Heap.get?_push_of_some _ (Heap.get?_push_of_some _ x)⟩
def IteT (K : PySem.W.Frag) (a : Addr) : It :=
  ⟨fun i H => ∃ xs x, SqT K H a xs ∧ xs[i]? = some x,
    fun i H v H' => ∃ T x, v = .ref T ∧ H T = none ∧ H' = upd H T (.tup [.int (i : Nat), x]) ∧ ∀ xs, SqT K H a xs → xs[i]? = some x,
    fun i H => ∃ xs, SqT K H a xs ∧ xs.length = i⟩
theorem turn_enumT {P : Program} {w : World} {K : PySem.W.Frag} {elts : List Expr} {kk : Nat} {tpos : Pos} (a e it : Addr) :
    Turn P w K (.Tuple elts kk tpos) (IteT K a) [e, it] e (fun i h => (∃ old, IsEnum h e it ((i : Nat) : Int) old) ∧ h.IsTupleIter it a i ∧ e ≠ it ∧ a ≠ it ∧ a ≠ e) where
  mem := by simp
  obj := fun i h st c hc => by
    obtain ⟨⟨old, he⟩, ⟨o, ho, _, hd⟩, _⟩ := st
    have e' : c = e ∨ c = it := by simpa using hc
    rcases e' with q | q
    · rw [q]; exact ⟨_, he, fun v q => nomatch q⟩
    · rw [q]; exact ⟨o, ho, fun v q => by rw [hd] at q; cases q⟩
  keep := fun i h h' st k => by
    obtain ⟨⟨old, he⟩, hit, n1, n2, n3⟩ := st
    exact ⟨⟨old, k e (by simp) _ he⟩, hit.at fun o q => k it (by simp) o q, n1, n2, n3⟩
  item := by
    intro X hP hw hK hc i pins s σ H E I hf st hg
    subst hP hw hK
    obtain ⟨⟨old, he⟩, hit, n1, n2, n3⟩ := st
    obtain ⟨xs, x, hq, hx⟩ := hg
    obtain ⟨its, rv, tp, hz⟩ := I.tuple hq
    obtain ⟨u, hu, ru⟩ := rv.get hx
    have hi : i < its.toArray.size := by
      have := (List.getElem?_eq_some_iff.mp hu).1
      simpa using this
    have W := WalksT.enumerateD (prog := X.prog) (w := X.w) (A := X.A) (Draws.tuple (show X.A.in1.handled = none from I.ok.hd hc) it a n2 its.toArray) e n1 (by simp [n1, Ne.symm n3]) (by simp)
    refine W.item i s _ _ hi ⟨⟨old, he⟩, hit, tp⟩ fun T vals h' tk hp hT ht mid hk => ?_
    obtain ⟨tt, y, hy, rfl⟩ := hp
    have ey : y = u := by
      have e1 : its[i]? = some y := by simpa using hy
      rw [hu] at e1
      exact (Option.some.inj e1).symm
    subst ey
    refine ⟨_, rfl, W.go elts kk tpos i T { s with heap := h', toks := tk } _ _ mid fun h'' st'' hk2 => ?_⟩
    obtain ⟨oT, eT, cT, nT, dT⟩ := ht
    have hT2 : h''.get? T = some oT := hk2 _ _ (W.apart _ _ _ mid) eT
    have new : ObjOk X.prog X.w (upd H T (.tup [.int (i : Nat), x])) h'' T (.tup [.int (i : Nat), x]) :=
      ⟨by show 2 ≤ sizeLine; decide, [_, _], .cons ⟨_, rfl⟩ (.cons ru .nil), ⟨_, hT2, cT, nT, dT⟩⟩
    have I1 : Inv X pins σ (upd H T (.tup [.int (i : Nat), x])) { s with heap := h'', toks := tk } :=
      I.turnedNew (t' := tk) (ch := [e, it]) (fun c o hb q => hk2 c o hb (hk c o hb q)) hf hT new
    refine ⟨.ref T, _, I1, rfl, ⟨T, x, rfl, I.hok.fresh hT, rfl, fun ys hys => ?_⟩, ⟨st''.1, st''.2.1, n1, n2, n3⟩, fun b hb => ?_⟩
    · obtain ⟨its2, rv2, tp2, _⟩ := I.tuple hys
      obtain ⟨o1, g1, _, m1, d1⟩ := tp
      obtain ⟨o2, g2, _, m2, d2⟩ := tp2
      rw [g1] at g2
      cases g2
      rw [d1] at d2
      have e3 : its = its2 := by
        have := (Data.seq.inj d2).1
        simpa using this
      subst e3
      rw [rv.inj rv2] at hx
      exact hx
    · have hlt : b < s.heap.objs.size := by
        have e' : b = e ∨ b = it := by simpa using hb
        rcases e' with q | q
        · rw [q]; exact Heap.lt_size he
        · rw [q]; obtain ⟨o, ho, _⟩ := hit; exact Heap.lt_size ho
      rw [upd_ne (Nat.ne_of_lt (Nat.lt_of_lt_of_le hlt hT))]
      exact (hf b hb).1
  done := by
    intro X hP hw hK hc i pins s σ H E I hf st hg
    subst hP hw hK
    obtain ⟨⟨old, he⟩, hit, n1, n2, n3⟩ := st
    obtain ⟨xs, hq, hl⟩ := hg
    obtain ⟨its, rv, tp, hz⟩ := I.tuple hq
    have W := WalksT.enumerateD (prog := X.prog) (w := X.w) (A := X.A) (Draws.tuple (show X.A.in1.handled = none from I.ok.hd hc) it a n2 its.toArray) e n1 (by simp [n1, Ne.symm n3]) (by simp)
    have hn : its.toArray.size = i := by
      rw [List.size_toArray, ← rv.length]
      exact hl
    subst hn
    exact W.done s _ _ ⟨⟨old, he⟩, hit, tp⟩ fun h' tk hk => ⟨rfl, I.turnedL (t' := tk) (ch := [e, it]) (fun c o hb q => hk c o hb q) hf⟩
  self := fun A i s Q E st h => wpAny_pyIter_enum st.1.choose_spec h
def iEnumT (K : PySem.W.Frag) (ta : L2.TA) : TI := fun σ H R => ta σ H fun vs H1 => ∃ a xs, vs = [.ref a] ∧ SqT K H1 a xs ∧ R (IteT K a) H1
theorem pi_enumT {X : Cx} (K : PySem.W.Frag) (hK : X.K = K) {e : Expr} {ta : L2.TA} {p pos tpos : Pos} {elts : List Expr} {kk : Nat} (hg : Gl X "enumerate") (hm : X.mg "enumerate" = none) (ha : PA X [e] ta) (hs : starEach [e] X.env = [(false, eval e X.env)] := by rfl) :
    PI X (.Tuple elts kk tpos) (.Call (.Name "enumerate" p) [e] [] pos) (iEnumT K ta) := by
  subst hK
  refine ⟨fun pins s σ H R I h => ?_⟩
  refine Call_ (ld_blt I hg hm boot_enumerate (PyProof.Rows.callWith_type1 (thn (ha.run pos pins s σ H _ I h) fun us s1 ⟨vs, H1, I1, r1, q1⟩ => ?_) hs rfl))
  obtain ⟨a, xs, rfl, hq, q⟩ := q1
  obtain ⟨u, rfl, ru⟩ := r1.one
  cases ru
  obtain ⟨its, rv, tp, hz⟩ := I1.tuple hq
  have hlt : a < s1.heap.objs.size := by
    obtain ⟨o, ho, _⟩ := id tp
    exact Heap.lt_size ho
  refine enumCall1 (begins_tuple a its.toArray) tp fun h' he hit hk => wpAny_pyIter_enum he ?_
  have I2 : Inv X pins σ H1 { s1 with heap := h' } := I1.kept (t' := s1.toks) hk
  refine ⟨s1.heap.objs.size + 1, [s1.heap.objs.size + 1, s1.heap.objs.size], _, _, H1, rfl, I2, turn_enumT a (s1.heap.objs.size + 1) s1.heap.objs.size, ⟨⟨.none, he⟩, ⟨_, hit, rfl, rfl⟩, Nat.succ_ne_self _, Nat.ne_of_lt hlt, Nat.ne_of_lt (Nat.lt_succ_of_lt hlt)⟩, fun c hc => ?_, q⟩
  have hle : s1.heap.objs.size ≤ c := by
    have e' : c = s1.heap.objs.size + 1 ∨ c = s1.heap.objs.size := by simpa using hc
    rcases e' with z | z
    · rw [z]; exact Nat.le_add_right _ _
    · rw [z]; exact Nat.le_refl _
  exact I1.fpOk hle (I1.hok.fresh hle)
theorem walk_enumT {K : PySem.W.Frag} {a : Addr} {xs : List V} : Walk (IteT K a) xs.length (fun H => SqT K H a xs) (YPair (fun i => some (.int (i : Nat))) (fun i => xs[i]?)) :=
  ⟨fun i H hi h => ⟨xs, xs[i], h, List.getElem?_eq_getElem hi⟩, fun H h => ⟨xs, h, rfl⟩, fun i H v H' hi h ⟨T, x, ev, hT, eH, hx⟩ => ⟨T, _, x, ev, hT, eH, rfl, hx xs h⟩⟩
/-! ### d.update(d2), tuples as keys -/
theorem KT.putAll {H : Hp} : ∀ {more : List (List Key × V)} {ys : List (List Key × Addr × Value)}, KT H more ys → ∀ {kvs : List (List Key × V)} {xs : List (List Key × Addr × Value)}, KT H kvs xs → KT H (more.foldl (fun acc p => putK acc p.1 p.2) kvs) (storedAllH xs ys)
  | _, _, .nil, _, _, r => r
  | _, _, .cons (a := p) (b := q) hq t, _, _, r => by
    obtain ⟨e1, e2, e3⟩ := hq
    have z := r.put p.1 (b := q.2.1) (y := p.2) (u := q.2.2) e2 e3
    have y := KT.putAll t z
    show KT H (List.foldl _ (putK _ p.1 p.2) _) (storedAllH (storedH _ q.1 q.2.1 q.2.2) _)
    rw [← e1]
    exact y
theorem putAll_len : ∀ (more kvs : List (List Key × V)), (more.foldl (fun acc p => putK acc p.1 p.2) kvs).length ≤ kvs.length + more.length
  | [], kvs => Nat.le_refl _
  | p :: r, kvs => by
    have h1 := putAll_len r (putK kvs p.1 p.2)
    have h2 := length_putK kvs p.1 p.2
    simp only [List.foldl_cons, List.length_cons]
    omega
def rUpdT : V → List V → Hp → VK → Prop := fun x vs H Q => ∃ (d o : Addr) (kvs more : List (List Key × V)), x = .ref d ∧ vs = [.ref o] ∧ d ≠ o ∧ H d = some (.dT kvs) ∧ H o = some (.dT more) ∧ (kvs ≠ [] ∨ more.length ≤ 1) ∧ kvs.length + more.length ≤ 1000 ∧
  Q .non (upd H d (.dT (more.foldl (fun acc p => putK acc p.1 p.2) kvs)))
theorem mt_updT {X : Cx} (hu : X.A.units + 1 < cLine) : MtR X "dict.update" rUpdT := by
  intro pins s σ H x vs v us Q I rx rv h
  obtain ⟨d, o, kvs, more, rfl, rfl, hne, hd, ho, hap, hl, q⟩ := h
  cases rx
  obtain ⟨u, rfl, ru⟩ := rv.one
  cases ru
  obtain ⟨z1, nd, xs, rel, raw⟩ := dt_of I.hok hd
  obtain ⟨z2, no, ys, rel2, raw2⟩ := dt_of I.hok ho
  have l1 := Paired.length rel
  have l2 := Paired.length rel2
  have hsl := sizeLine_eq
  have ap : xs ≠ [] ∨ ((∀ y ∈ ys, s.TypeIs (.ref y.2.1) "tuple") ∧ (ys.map fun y => (tupleKind (mixKind X.prog X.w)).hash y.1).Nodup) := by
    rcases hap with h | h
    · exact .inl fun e => h (List.eq_nil_of_length_eq_zero (by rw [l1, e]; rfl))
    · refine .inr ?_
      cases rel2 with
      | nil => exact ⟨(fun y hy => nomatch hy), List.nodup_nil⟩
      | cons hq t =>
        cases t with
        | nil =>
          refine ⟨fun y hy => ?_, by simp⟩
          rw [List.mem_singleton.mp hy]
          obtain ⟨_, its, _, oo, g1, g2, _⟩ := I.hok _ _ hq.2.1
          exact ⟨oo, g1, g2⟩
        | cons _ _ => simp at h
  refine call_update_dictH (knd := tupleKind (mixKind X.prog X.w)) (tupleKind_room_in1 hu) hne no raw raw2 ap (by omega) fun h' raw' _ same => ?_
  obtain ⟨oo, es, ep, g1, g2, g3, g4, _, g5⟩ := raw'
  have pl := putAll_len more kvs
  have keepT : ∀ c zs, H c = some (.tup zs) → upd H d (.dT (more.foldl (fun acc p => putK acc p.1 p.2) kvs)) c = some (.tup zs) := fun c zs ec => by
    rw [upd_ne (fun y => by rw [y, hd] at ec; cases ec)]
    exact ec
  exact ⟨.non, _, d_write (ob := .dT (more.foldl (fun acc p => putK acc p.1 p.2) kvs)) I (by rw [hd]; trivial) same ⟨oo, g1⟩ ⟨by omega, nd, _, (KT.putAll rel2 rel).keeps keepT, oo, es, ep, g1, g2, g3, g4, g5⟩, rfl, q⟩
end FYR

set_option Elab.async false
set_option linter.all false
set_option maxRecDepth 100000
set_option maxHeartbeats 4000000
namespace FY
open PySem L2 FYR
/-! ## data, how large it is -/
structure Nice (n w : Nat) (d : PyData) : Prop where
  lay : d.canLay0 = true
  dep : d.depth ≤ n
  sh : d.showable = true
  nd : d.hasDict = false
  wt : d.weight ≤ w
  si : d.intsShort 13 = true
theorem Nice.mono {n w n' w' : Nat} {d : PyData} (h : Nice n w d) (h1 : n ≤ n') (h2 : w ≤ w') : Nice n' w' d := ⟨h.lay, Nat.le_trans h.dep h1, h.sh, h.nd, Nat.le_trans h.wt h2, h.si⟩
theorem Nice.shp {n w : Nat} {d : PyData} (h : Nice n w d) (hn : n ≤ 64) : SeqAt.shaped d = true := by
  have := h.dep
  unfold SeqAt.shaped
  simp [h.lay]
  omega
theorem Nice.shown {n w : Nat} {d : PyData} (h : Nice n w d) (hn : n ≤ 64) (hw : w ≤ 1000000) : d.shown.length ≤ sizeLine := by
  have h1 := h.dep
  have h2 := h.wt
  refine Nat.le_trans (PyProof.Rows.shown_le13 ?_ h.si) (by decide)
  unfold PyData.layable0
  simp only [h.lay, Bool.true_and, Bool.and_eq_true, decide_eq_true_eq]
  exact ⟨by omega, by have : (2 : Nat) ^ 20 = 1048576 := by decide
                      omega⟩
def smallInt (k : Fin 101) : Bool := (PyData.int (k.val : Int)).showable && decide ((PyData.int (k.val : Int)).weight ≤ 7) && (PyData.int (k.val : Int)).intsShort 13
theorem smallInts : ∀ k : Fin 101, smallInt k = true := by decide +kernel
theorem nice_int {k : Nat} (h : k ≤ 100) : Nice 0 7 (.int (k : Int)) := by
  have z := smallInts ⟨k, by omega⟩
  unfold smallInt at z
  simp only [Bool.and_eq_true, decide_eq_true_eq] at z
  exact ⟨rfl, Nat.le_refl _, z.1.1, rfl, z.1.2, z.2⟩
theorem tx_ok (b : List Bool) : PyData.strOk (tx b) = true := by
  unfold PyData.strOk
  rw [Array.all_eq_true_iff_forall_mem]
  intro c hc
  simp only [tx, List.mem_toArray, List.mem_map] at hc
  obtain ⟨x, _, rfl⟩ := hc
  cases x <;> decide
theorem nice_str {b : List Bool} {m : Nat} (h : b.length ≤ m) : Nice 0 m (.str (tx b)) := ⟨tx_ok b, Nat.le_refl _, rfl, rfl, by show (tx b).cps.size ≤ m; rw [tx_size]; exact h, rfl⟩
theorem nice_rd (r : Rd) : Nice 0 2 (.str r.s) := by
  cases r <;> exact ⟨by decide +kernel, Nat.le_refl _, rfl, rfl, by decide +kernel, rfl⟩
structure NiceAll (n w m : Nat) (ds : List PyData) : Prop where
  lay : PyData.canLayAll0 ds = true
  dep : PyData.depthAll ds ≤ n
  sh : PyData.showableAll ds = true
  nd : PyData.hasDictAll ds = false
  wt : PyData.weightAll ds ≤ m * (w + 1)
  si : PyData.intsShortAll 13 ds = true
theorem nice_all {n w : Nat} : ∀ {ds : List PyData}, (∀ d ∈ ds, Nice n w d) → NiceAll n w ds.length ds
  | [], _ => ⟨rfl, Nat.zero_le _, rfl, rfl, Nat.zero_le _, rfl⟩
  | d :: r, h => by
    have a := h d (List.mem_cons_self ..)
    have b := nice_all fun x hx => h x (List.mem_cons_of_mem _ hx)
    refine ⟨by simp [PyData.canLayAll0, a.lay, b.lay], by rw [PyData.depthAll]; exact Nat.max_le.mpr ⟨a.dep, b.dep⟩, by simp [PyData.showableAll, a.sh, b.sh], by simp [PyData.hasDictAll, a.nd, b.nd], ?_, by simp [PyData.intsShortAll, a.si, b.si]⟩
    have := a.wt
    have := b.wt
    simp only [PyData.weightAll, List.length_cons, Nat.add_mul]
    omega
theorem nice_tup {n w m : Nat} {ds : List PyData} (h : ∀ d ∈ ds, Nice n w d) (hm : ds.length ≤ m) : Nice (n + 1) (m * (w + 1)) (.tuple ds) := by
  have a := nice_all h
  exact ⟨a.lay, Nat.succ_le_succ a.dep, a.sh, a.nd, Nat.le_trans a.wt (Nat.mul_le_mul_right _ hm), a.si⟩
theorem nice_lst {n w m : Nat} {ds : List PyData} (h : ∀ d ∈ ds, Nice n w d) (hm : ds.length ≤ m) : Nice (n + 1) (m * (w + 1)) (.list ds) := by
  have a := nice_all h
  exact ⟨a.lay, Nat.succ_le_succ a.dep, a.sh, a.nd, Nat.le_trans a.wt (Nat.mul_le_mul_right _ hm), a.si⟩
theorem dpall {α : Type} {K : PySem.W.Frag} {H : Hp} {R : V → α → Prop} {f : α → PyData} (h : ∀ v x, R v x → Dp K H v (f x)) : ∀ {vs : List V} {xs : List α}, Paired R vs xs → DpAll K H vs (xs.map f)
  | _, _, .nil => .nil
  | _, _, .cons r q => .cons (h _ _ r) (dpall h q)
theorem dpstr {K : PySem.W.Frag} {H : Hp} : ∀ bs : List (List Bool), DpAll K H (bs.map fun b => V.str (tx b)) (bs.map fun b => PyData.str (tx b))
  | [] => .nil
  | b :: r => .cons (.str _) (dpstr r)
/-! rows, standings, stations -/
def rwD (r : Rw) : PyData := .tuple [.tuple (r.gives.map fun b => .str (tx b)), .int r.goal, .int r.ticks]
def sgD (s : Sg) : PyData := .tuple [.str s.reads.s, .tuple (s.rows.map rwD)]
def toD (s : Sg) : PyData := .tuple [.str s.reads.s, .list (s.rows.map rwD)]
def stD (t : Stn) : PyData := .tuple [.int t.ins, .int t.outs, .list (t.stgs.map toD)]
theorem RwA.dp {K : PySem.W.Frag} {H : Hp} {v : V} {r : Rw} (h : RwA H v r) : Dp K H v (rwD r) := by
  obtain ⟨a, g, rfl, h1, h2⟩ := h
  exact .tup (SqT.of h1) (.cons (.tup (SqT.of h2) (dpstr _)) (.cons (.int _) (.cons (.int _) .nil)))
theorem SgA.dp {K : PySem.W.Frag} {H : Hp} {v : V} {s : Sg} (h : SgA H v s) : Dp K H v (sgD s) := by
  obtain ⟨a, q, ws, rfl, h1, h2, p⟩ := h
  exact .tup (SqT.of h1) (.cons (.str _) (.cons (.tup (SqT.of h2) (dpall (fun _ _ r => r.dp) p)) .nil))
theorem ToldA.dp {K : PySem.W.Frag} {H : Hp} {v : V} {s : Sg} (h : ToldA H v s) : Dp K H v (toD s) := by
  obtain ⟨a, q, ws, rfl, h1, h2, p⟩ := h
  exact .tup (SqT.of h1) (.cons (.str _) (.cons (.lst (SqL.of h2) (dpall (fun _ _ r => r.dp) p)) .nil))
theorem rw_nice {r : Rw} {outs many : Nat} (h : r.ok outs many) (ho : outs ≤ 2) (hm : many ≤ 100) : Nice 2 24 (rwD r) := by
  obtain ⟨h1, h2, h3, h4, h5⟩ := h
  refine nice_tup (n := 1) (w := 7) (m := 3) (fun d hd => ?_) (Nat.le_refl 3)
  simp only [List.mem_cons, List.not_mem_nil, or_false] at hd
  rcases hd with rfl | rfl | rfl
  · refine (nice_tup (n := 0) (w := 2) (m := 2) (fun d hd => ?_) (by rw [List.length_map]; omega)).mono (Nat.le_refl 1) (by decide)
    obtain ⟨b, hb, rfl⟩ := List.mem_map.mp hd
    exact nice_str (h2 b hb)
  · exact (nice_int (by omega)).mono (by decide) (Nat.le_refl 7)
  · exact (nice_int (by omega)).mono (by decide) (Nat.le_refl 7)
theorem rows_nice {s : Sg} {ins outs many : Nat} (h : s.ok ins outs many) (ho : outs ≤ 2) (hm : many ≤ 100) : (∀ d ∈ s.rows.map rwD, Nice 2 24 d) ∧ (s.rows.map rwD).length ≤ 4 := by
  obtain ⟨_, h2, h3⟩ := h
  refine ⟨fun d hd => ?_, ?_⟩
  · obtain ⟨r, hr, rfl⟩ := List.mem_map.mp hd
    exact rw_nice (h3 r hr) ho hm
  · rw [List.length_map, h2]
    cases s.reads <;> decide
theorem sg_nice {s : Sg} {ins outs many : Nat} (h : s.ok ins outs many) (ho : outs ≤ 2) (hm : many ≤ 100) : Nice 4 202 (sgD s) := by
  obtain ⟨a, b⟩ := rows_nice h ho hm
  refine nice_tup (n := 3) (w := 100) (m := 2) (fun d hd => ?_) (Nat.le_refl 2)
  simp only [List.mem_cons, List.not_mem_nil, or_false] at hd
  rcases hd with rfl | rfl
  · exact (nice_rd _).mono (by decide) (by decide)
  · exact nice_tup a b
theorem to_nice {s : Sg} {ins outs many : Nat} (h : s.ok ins outs many) (ho : outs ≤ 2) (hm : many ≤ 100) : Nice 4 202 (toD s) := by
  obtain ⟨a, b⟩ := rows_nice h ho hm
  refine nice_tup (n := 3) (w := 100) (m := 2) (fun d hd => ?_) (Nat.le_refl 2)
  simp only [List.mem_cons, List.not_mem_nil, or_false] at hd
  rcases hd with rfl | rfl
  · exact (nice_rd _).mono (by decide) (by decide)
  · exact nice_lst a b
theorem st_nice {t : Stn} (h : t.ok) : Nice 6 2439 (stD t) := by
  have := h.i2
  have := h.o2
  refine nice_tup (n := 5) (w := 812) (m := 3) (fun d hd => ?_) (Nat.le_refl 3)
  simp only [List.mem_cons, List.not_mem_nil, or_false] at hd
  rcases hd with rfl | rfl | rfl
  · exact (nice_int (by omega)).mono (by decide) (by decide)
  · exact (nice_int (by omega)).mono (by decide) (by decide)
  · refine nice_lst (n := 4) (w := 202) (m := 4) (fun d hd => ?_) (by rw [List.length_map]; exact h.m2)
    obtain ⟨s, hs, rfl⟩ := List.mem_map.mp hd
    exact to_nice (h.sg s hs) h.o2 (Nat.le_trans h.m2 (by decide))
theorem sgs_nice {t : Stn} (h : t.ok) : Nice 5 812 (.tuple (t.stgs.map sgD)) := by
  refine nice_tup (n := 4) (w := 202) (m := 4) (fun d hd => ?_) (by rw [List.length_map]; exact h.m2)
  obtain ⟨s, hs, rfl⟩ := List.mem_map.mp hd
  exact sg_nice (h.sg s hs) h.o2 (Nat.le_trans h.m2 (by decide))
/-! pipes and lines -/
def ppD (p : Pipe) : PyData := .tuple [.int p.1, .int p.2.1, .int p.2.2.1, .int p.2.2.2]
def lnD (l : Nat × Nat) : PyData := .tuple [.int l.1, .int l.2]
theorem PipeA.dp {K : PySem.W.Frag} {H : Hp} {v : V} {p : Pipe} (h : PipeA H v p) : Dp K H v (ppD p) := by
  obtain ⟨t, rfl, h⟩ := h
  exact .tup (SqT.of h) (.cons (.int _) (.cons (.int _) (.cons (.int _) (.cons (.int _) .nil))))
theorem pp_nice {p : Pipe} (h : p.1 ≤ 100 ∧ p.2.1 ≤ 100 ∧ p.2.2.1 ≤ 100 ∧ p.2.2.2 ≤ 100) : Nice 1 32 (ppD p) := by
  obtain ⟨h1, h2, h3, h4⟩ := h
  refine nice_tup (n := 0) (w := 7) (m := 4) (fun d hd => ?_) (Nat.le_refl 4)
  simp only [List.mem_cons, List.not_mem_nil, or_false] at hd
  rcases hd with rfl | rfl | rfl | rfl <;> exact nice_int (by assumption)
theorem ln_nice {l : Nat × Nat} (h : l.1 ≤ 100 ∧ l.2 ≤ 100) : Nice 1 16 (lnD l) := by
  refine nice_tup (n := 0) (w := 7) (m := 2) (fun d hd => ?_) (Nat.le_refl 2)
  simp only [List.mem_cons, List.not_mem_nil, or_false] at hd
  rcases hd with rfl | rfl
  · exact nice_int h.1
  · exact nice_int h.2
theorem ln_eqv (a b : Nat × Nat) : PyData.eqv (lnD a) (lnD b) = decide (a = b) := by
  obtain ⟨x, y⟩ := a
  obtain ⟨z, w⟩ := b
  simp only [lnD, PyData.eqv, PyData.eqvAll, Bool.and_true]
  by_cases h1 : x = z <;> by_cases h2 : y = w <;> simp [h1, h2] <;> omega
/-- the value is a pair of numbers, a tuple -/
def PrA (H : Hp) (v : V) (l : Nat × Nat) : Prop := ∃ t, v = .ref t ∧ H t = some (.tup [.int l.1, .int l.2])
theorem PrA.dp {K : PySem.W.Frag} {H : Hp} {v : V} {l : Nat × Nat} (h : PrA H v l) : Dp K H v (lnD l) := by
  obtain ⟨t, rfl, h⟩ := h
  exact .tup (SqT.of h) (.cons (.int _) (.cons (.int _) .nil))
theorem PrA.keep {H H' : Hp} (k : Tups H H') {v : V} {l : Nat × Nat} (h : PrA H v l) : PrA H' v l := by
  obtain ⟨t, e, h⟩ := h
  exact ⟨t, e, k _ _ h⟩
theorem pr_all {H H' : Hp} (k : Tups H H') : ∀ {vs : List V} {ls : List (Nat × Nat)}, Paired (PrA H) vs ls → Paired (PrA H') vs ls
  | _, _, .nil => .nil
  | _, _, .cons r q => .cons (r.keep k) (pr_all k q)
theorem any_ln (l : Nat × Nat) : ∀ ls : List (Nat × Nat), ((ls.map lnD).any fun z => PyData.eqv z (lnD l)) = decide (l ∈ ls)
  | [] => rfl
  | a :: r => by
    rw [List.map_cons, List.any_cons, any_ln l r, ln_eqv]
    by_cases h : a = l
    · subst h; simp
    · rw [decide_eq_false h, Bool.false_or]
      have : (l ∈ a :: r) ↔ l ∈ r := by
        rw [List.mem_cons]
        exact ⟨fun z => z.elim (fun e => absurd e.symm h) id, .inr⟩
      simp only [this]
/-! ## lists in A may change, all else stays -/
def KL (A : List Addr) (H H' : Hp) : Prop := ∀ b o, (∀ ps, o ≠ .tbl ps) → (b ∈ A → ∀ xs, o ≠ .lst xs) → H b = some o → H' b = some o
theorem KL.of {A : List Addr} {H H' : Hp} (s : Same H H') : KL A H H' := fun b o _ _ e => s b o e
theorem KL.trans {A : List Addr} {H H1 H2 : Hp} (a : KL A H H1) (b : KL A H1 H2) : KL A H H2 := fun x o t n e => b x o t n (a x o t n e)
theorem KL.mono {A B : List Addr} {H H' : Hp} (a : KL A H H') (h : ∀ x ∈ A, x ∈ B) : KL B H H' := fun b o t n e => a b o t (fun z => n (h b z)) e
theorem KL.nl {A : List Addr} {H H' : Hp} (a : KL A H H') : NL H H' := fun b o t n e => a b o t (fun _ => n) e
theorem KL.tups {A : List Addr} {H H' : Hp} (a : KL A H H') : Tups H H' := a.nl.tups
theorem KL.at {A : List Addr} {H : Hp} {L : Addr} {xs : List V} {o : HO} (h : H L = some (.lst xs)) (m : L ∈ A) : KL A H (upd H L o) := fun b u _ n e => by
  rw [upd_ne (fun z => by rw [z, h] at e; exact n (z ▸ m) xs (Option.some.inj e).symm)]
  exact e
theorem KL.lst {A : List Addr} {H H' : Hp} (a : KL A H H') {L : Addr} {xs : List V} (n : L ∉ A) (h : H L = some (.lst xs)) : H' L = some (.lst xs) := a L _ (fun _ z => nomatch z) (fun z => absurd z n) h
/-- a new object is in none of the lists that stand -/
theorem new_nin {A : List Addr} {H : Hp} {p : Addr} (h : ∀ a ∈ A, H a ≠ none) (hp : H p = none) : p ∉ A := fun m => h p m hp
def ToldX (A : List Addr) (H : Hp) (v : V) (s : Sg) : Prop := ∃ a q ws, v = .ref a ∧ H a = some (.tup [.str s.reads.s, .ref q]) ∧ q ∉ A ∧ H q = some (.lst ws) ∧ Paired (RwA H) ws s.rows
def DatA (A : List Addr) (H : Hp) (v : V) (t : Stn) : Prop := ∃ a L ws, v = .ref a ∧ H a = some (.tup [.int t.ins, .int t.outs, .ref L]) ∧ L ∉ A ∧ H L = some (.lst ws) ∧ Paired (ToldX A H) ws t.stgs
theorem ToldX.kl {A : List Addr} {H H' : Hp} (k : KL A H H') {v : V} {s : Sg} (h : ToldX A H v s) : ToldX A H' v s := by
  obtain ⟨a, q, ws, e, h1, n, h2, p⟩ := h
  exact ⟨a, q, ws, e, k.tups _ _ h1, n, k.lst n h2, rwA_all k.tups p⟩
theorem toldX_all {A : List Addr} {H H' : Hp} (k : KL A H H') : ∀ {vs : List V} {ss : List Sg}, Paired (ToldX A H) vs ss → Paired (ToldX A H') vs ss
  | _, _, .nil => .nil
  | _, _, .cons r q => .cons (r.kl k) (toldX_all k q)
theorem toldX_sub {A B : List Addr} {H : Hp} (h : ∀ x ∈ B, x ∈ A) : ∀ {vs : List V} {ss : List Sg}, Paired (ToldX A H) vs ss → Paired (ToldX B H) vs ss
  | _, _, .nil => .nil
  | _, _, .cons ⟨a, q, ws, e, h1, n, h2, p⟩ r => .cons ⟨a, q, ws, e, h1, fun z => n (h _ z), h2, p⟩ (toldX_sub h r)
theorem toldX_told {A : List Addr} {H : Hp} : ∀ {vs : List V} {ss : List Sg}, Paired (ToldX A H) vs ss → Paired (ToldA H) vs ss
  | _, _, .nil => .nil
  | _, _, .cons ⟨a, q, ws, e, h1, _, h2, p⟩ r => .cons ⟨a, q, ws, e, h1, h2, p⟩ (toldX_told r)
theorem DatA.kl {A : List Addr} {H H' : Hp} (k : KL A H H') {v : V} {t : Stn} (h : DatA A H v t) : DatA A H' v t := by
  obtain ⟨a, L, ws, e, h1, n, h2, p⟩ := h
  exact ⟨a, L, ws, e, k.tups _ _ h1, n, k.lst n h2, toldX_all k p⟩
theorem DatA.sub {A B : List Addr} (hs : ∀ x ∈ B, x ∈ A) {H : Hp} {v : V} {t : Stn} (h : DatA A H v t) : DatA B H v t := by
  obtain ⟨a, L, ws, e, h1, n, h2, p⟩ := h
  exact ⟨a, L, ws, e, h1, fun z => n (hs _ z), h2, toldX_sub hs p⟩
theorem dat_all {A : List Addr} {H H' : Hp} (k : KL A H H') : ∀ {vs : List V} {ts : List Stn}, Paired (DatA A H) vs ts → Paired (DatA A H') vs ts
  | _, _, .nil => .nil
  | _, _, .cons r q => .cons (r.kl k) (dat_all k q)
theorem dat_sub {A B : List Addr} (hs : ∀ x ∈ B, x ∈ A) {H : Hp} : ∀ {vs : List V} {ts : List Stn}, Paired (DatA A H) vs ts → Paired (DatA B H) vs ts
  | _, _, .nil => .nil
  | _, _, .cons r q => .cons (r.sub hs) (dat_sub hs q)
theorem DatA.dp {A : List Addr} {K : PySem.W.Frag} {H : Hp} {v : V} {t : Stn} (h : DatA A H v t) : Dp K H v (stD t) := by
  obtain ⟨a, L, ws, rfl, h1, _, h2, p⟩ := h
  exact .tup (SqT.of h1) (.cons (.int _) (.cons (.int _) (.cons (.lst (SqL.of h2) (dpall (fun _ _ r => r.dp) (toldX_told p))) .nil)))
end FY

set_option Elab.async false
set_option linter.all false
set_option maxRecDepth 100000
set_option maxHeartbeats 2000000
namespace FY
open PySem L2 FYR
/-! ### values stay where lists, tuples and dicts stay -/
def isDat : HO → Prop
  | .lst _ => True
  | .tup _ => True
  | .dK _ => True
  | _ => False
/-- all data but p's stays -/
def Dk (p : Addr) (H H' : Hp) : Prop := ∀ b o, b ≠ p → isDat o → H b = some o → H' b = some o
theorem Dk.of {p : Addr} {H H' : Hp} (s : Same H H') : Dk p H H' := fun b o _ _ e => s b o e
theorem Dk.kp {p : Addr} {H H' : Hp} (s : Kp p H H') : Dk p H H' := fun b o n _ e => s b o n e
theorem Dk.trans {p : Addr} {H G F : Hp} (s : Dk p H G) (t : Dk p G F) : Dk p H F := fun b o n d e => t b o n d (s b o n d e)
theorem Dk.refl {p : Addr} {H : Hp} : Dk p H H := fun _ _ _ _ e => e
theorem Dk.tups {p : Addr} {H H' : Hp} (s : Dk p H H') (n : ∀ xs, H p ≠ some (.tup xs)) : Tups H H' := fun a xs e => s a _ (fun z => n xs (z ▸ e)) trivial e
mutual
theorem Tv.dk {p : Addr} {H H' : Hp} (k : Dk p H H') : ∀ (d : PyData) {v : V}, Tv p H v d → Tv p H' v d
  | .none, _, h => by cases h; exact .non
  | .bool b, _, h => by cases h; exact .bl _
  | .int i, _, h => by cases h; exact .int _
  | .str x, _, h => by cases h; exact .str _
  | .list ds, _, h => by
    cases h with
    | lst n e r => exact .lst n (k _ _ n trivial e) (TvAll.dk k ds r)
  | .tuple ds, _, h => by
    cases h with
    | tup n e r => exact .tup n (k _ _ n trivial e) (TvAll.dk k ds r)
  | .dict kv, _, h => by
    cases h with
    | dic n e => exact .dic n (k _ _ n trivial e)
    | dcI n e r => exact .dcI n (k _ _ n trivial e) (TvKv.dk k kv r)
theorem TvAll.dk {p : Addr} {H H' : Hp} (k : Dk p H H') : ∀ (ds : List PyData) {vs : List V}, TvAll p H vs ds → TvAll p H' vs ds
  | [], _, h => by cases h; exact .nil
  | d :: ds, _, h => by
    cases h with
    | cons a b => exact .cons (Tv.dk k d a) (TvAll.dk k ds b)
theorem TvKv.dk {p : Addr} {H H' : Hp} (k : Dk p H H') : ∀ (ds : List (PyData × PyData)) {vs : List (Key × V)}, TvKv p H vs ds → TvKv p H' vs ds
  | [], _, h => by cases h; exact .nil
  | (_, d) :: ds, _, h => by
    cases h with
    | cons a b => exact .cons (Tv.dk k d a) (TvKv.dk k ds b)
end
theorem tv_tup {p : Addr} {H : Hp} {v : V} {ds : List PyData} (h : Tv p H v (.tuple ds)) : ∃ a xs, v = .ref a ∧ a ≠ p ∧ H a = some (.tup xs) ∧ TvAll p H xs ds := by
  cases h with
  | tup n e r => exact ⟨_, _, rfl, n, e, r⟩
theorem tv_lst {p : Addr} {H : Hp} {v : V} {ds : List PyData} (h : Tv p H v (.list ds)) : ∃ a xs, v = .ref a ∧ a ≠ p ∧ H a = some (.lst xs) ∧ TvAll p H xs ds := by
  cases h with
  | lst n e r => exact ⟨_, _, rfl, n, e, r⟩
theorem tvs_two {p : Addr} {H : Hp} {xs : List V} {a b : PyData} (h : TvAll p H xs [a, b]) : ∃ x y, xs = [x, y] ∧ Tv p H x a ∧ Tv p H y b := by
  cases h with
  | cons h1 h =>
  cases h with
  | cons h2 h =>
  cases h
  exact ⟨_, _, rfl, h1, h2⟩
theorem tvs_three {p : Addr} {H : Hp} {xs : List V} {a b c : PyData} (h : TvAll p H xs [a, b, c]) : ∃ x y z, xs = [x, y, z] ∧ Tv p H x a ∧ Tv p H y b ∧ Tv p H z c := by
  cases h with
  | cons h1 h =>
  obtain ⟨y, z, rfl, h2, h3⟩ := tvs_two h
  exact ⟨_, y, z, rfl, h1, h2, h3⟩
theorem TvAll.get {p : Addr} {H : Hp} : ∀ {ds : List PyData} {vs : List V} {i : Nat} {d : PyData}, TvAll p H vs ds → ds[i]? = some d → ∃ v, vs[i]? = some v ∧ Tv p H v d
  | [], _, i, d, h, e => by simp at e
  | d :: ds, _, 0, d', h, e => by
    cases h with
    | cons a b => simp at e; subst e; exact ⟨_, rfl, a⟩
  | d :: ds, _, i + 1, d', h, e => by
    cases h with
    | cons a b =>
      obtain ⟨v, e1, e2⟩ := TvAll.get b (i := i) (by simpa using e)
      exact ⟨v, by simpa using e1, e2⟩
theorem TvAll.of {p : Addr} {H : Hp} : ∀ {vs : List V} {ds : List PyData}, vs.length = ds.length → (∀ (i : Nat) (v : V) (d : PyData), vs[i]? = some v → ds[i]? = some d → Tv p H v d) → TvAll p H vs ds
  | [], [], _, _ => .nil
  | v :: vs, d :: ds, l, h => .cons (h 0 v d rfl rfl) (TvAll.of (by simpa using l) fun i v d e1 e2 => h (i + 1) v d (by simpa using e1) (by simpa using e2))
  | [], _ :: _, l, _ => by cases l
  | _ :: _, [], l, _ => by cases l
end FY

set_option Elab.async false
set_option linter.all false
set_option maxRecDepth 100000
set_option maxHeartbeats 2000000
namespace FY
open PySem L2 FYR
/-! ### what any value is judged to be (over its data) -/
def numD : PyData → Bool
  | .int _ => true
  | _ => false
def cntD : PyData → Bool
  | .int i => decide (0 ≤ i)
  | _ => false
def belD (m : Nat) : PyData → Bool
  | .int i => decide (0 ≤ i) && decide (i < (m : Int))
  | _ => false
def chrB (c : Nat) : Bool := c == 48 || c == 49
def textB (s : Str) : Bool := s.cps.toList.all chrB
def toTx (s : Str) : List Bool := s.cps.toList.map fun c => c == 49
def txtD : PyData → Bool
  | .str s => textB s
  | _ => false
def txtM (m : Nat) : PyData → Bool
  | .str s => textB s && decide (s.cps.size ≤ m)
  | _ => false
theorem chr_cd {c : Nat} (h : chrB c = true) : cd (c == 49) = c := by
  unfold chrB at h
  simp only [Bool.or_eq_true, beq_iff_eq] at h
  rcases h with rfl | rfl <;> rfl
theorem text_tx {s : Str} (h : textB s = true) : s = tx (toTx s) := by
  apply str_ext
  rw [tx_toList]
  unfold toTx
  rw [List.map_map]
  unfold textB at h
  have key : ∀ l : List Nat, l.all chrB = true → l = l.map (cd ∘ fun c => c == 49) := fun l => by
    induction l with
    | nil => intro _; rfl
    | cons c r ih =>
      intro h
      rw [List.all_cons, Bool.and_eq_true] at h
      rw [List.map_cons, ← ih h.2]
      show c :: r = cd (c == 49) :: r
      rw [chr_cd h.1]
  exact key _ h
theorem tx_text (bs : List Bool) : textB (tx bs) = true := by
  unfold textB
  rw [tx_toList, List.all_map]
  refine List.all_eq_true.mpr fun b _ => ?_
  cases b <;> decide +kernel
theorem tx_back (bs : List Bool) : toTx (tx bs) = bs := by
  have e := text_tx (tx_text bs)
  exact (tx_inj e).symm
/-- a number as it stands in a rest -/
def natD : PyData → Nat
  | .int i => i.toNat
  | _ => 0
def bitD : PyData → List Bool
  | .str s => toTx s
  | _ => []
/-- whether a value is standings and contents with which a yard can begin -/
theorem bel_nat {m : Nat} {d : PyData} (h : belD m d = true) : d = .int ((natD d : Nat) : Int) ∧ natD d < m := by
  cases d with
  | int i =>
    have h : (decide (0 ≤ i) && decide (i < (m : Int))) = true := h
    simp only [Bool.and_eq_true, decide_eq_true_eq] at h
    have e : ((i.toNat : Nat) : Int) = i := Int.toNat_of_nonneg h.1
    exact ⟨congrArg PyData.int e.symm, by show i.toNat < m; omega⟩
  | _ => cases h
theorem txt_bit {m : Nat} {d : PyData} (h : txtM m d = true) : d = .str (tx (bitD d)) ∧ (bitD d).length ≤ m := by
  cases d with
  | str s =>
    have h : (textB s && decide (s.cps.size ≤ m)) = true := h
    simp only [Bool.and_eq_true, decide_eq_true_eq] at h
    have e := text_tx h.1
    refine ⟨congrArg PyData.str e, ?_⟩
    show (toTx s).length ≤ m
    unfold toTx
    rw [List.length_map, Array.length_toList]
    exact h.2
  | _ => cases h
end FY

set_option Elab.async false
set_option linter.all false
set_option maxRecDepth 100000
set_option maxHeartbeats 4000000
namespace FY
open PySem L2 FYR
/-! ## the program's questions, asked of any value -/
/-- texts are not too long to be walked -/
def shortD : PyData → Prop
  | .str s => s.cps.size ≤ 100000
  | _ => True
def spIsIntT : Sp := fun vs H Q _ => ∃ p v d, vs = [v] ∧ Tv p H v d ∧ Q (.bl (numD d)) H
def spIsCntT : Sp := fun vs H Q _ => ∃ p v d, vs = [v] ∧ Tv p H v d ∧ Q (.bl (cntD d)) H
def spIsBelT : Sp := fun vs H Q _ => ∃ p v d, ∃ m : Nat, vs = [v, .int (m : Nat)] ∧ Tv p H v d ∧ Q (.bl (belD m d)) H
def spIsTextT : Sp := fun vs H Q _ => ∃ p v d, vs = [v] ∧ Tv p H v d ∧ shortD d ∧ ∀ H', Same H H' → Q (.bl (txtD d)) H'
def spIsTextOfT : Sp := fun vs H Q _ => ∃ p v d, ∃ m : Nat, vs = [v, .int (m : Nat)] ∧ Tv p H v d ∧ shortD d ∧ ∀ H', Same H H' → Q (.bl (txtM m d)) H'
/-- a thing that is judged: any value, or a dict of rests -/
def Tw (w : World) (p : Addr) (H : Hp) (v : V) : Option PyData → Prop
  | some d => Tv p H v d
  | none => ∃ a kvs, v = .ref a ∧ ND w H a kvs
def seqO : Option PyData → Bool
  | some d => isSeqD d
  | none => false
def spIsListW (w : World) : Sp := fun vs H Q _ => ∃ p v o, vs = [v] ∧ Tw w p H v o ∧ ∀ H', Same H H' → Q (.bl (seqO o)) H'
theorem Tw.ty {K : PySem.W.Frag} {w : World} {p : Addr} {H : Hp} {v : V} : ∀ {o : Option PyData}, Tw w p H v o → ∃ t, TyY K w H v (.type t) ∧ PySem.W.kitAny K (.type t) [.type "list", .type "tuple"] = some (seqO o)
  | some d, h => ⟨tyN d, .inl (Tv.ty h), kit_seq d⟩
  | none, ⟨a, kvs, e, nd⟩ => ⟨"dict", .inr ⟨a, kvs, e, nd, rfl⟩, kitAny_cons (b := false) (kit_ty (by decide +kernel)) (fun _ => kitAny_cons (b := false) (kit_ty (by decide +kernel)) (fun _ => kitAny_nil) (fun z => nomatch z)) (fun z => nomatch z)⟩
theorem Tw.same {w : World} {p : Addr} {H H' : Hp} (s : Same H H') {v : V} : ∀ {o : Option PyData}, Tw w p H v o → Tw w p H' v o
  | some d, h => Tv.same s h
  | none, ⟨a, kvs, e, nd⟩ => ⟨a, kvs, e, nd.keep (fun o e => s _ _ e) (Tups.of s)⟩
section
variable {P : Program} {w : World} {K : PySem.W.Frag} {mg : Str → Option Value} {base : Heap} {aS a1 a2 aL aT : Addr} {f : Addr} {fd : FuncData} {C CD CY CL CT CW fI : Addr} {mc : Value}
theorem ok_is_integerT (F : Fun K "is_integer" "is_integer" s_is_integer f fd) (T : Txt K mg aS a1 a2) : FnOk P w K mg base CX0 1 f fd ["value"] spIsIntT := by
  refine F.ok sc_is_integer (fun vs H Q E h => ?_) (fun cdv A outer s H vs Q E hr h => ?_)
  · obtain ⟨p, v, d, rfl, _⟩ := h
    rfl
  obtain ⟨p, v, d, rfl, hv, q⟩ := h
  refine ⟨_, (pss_one (ps_ret (pe_and (pe_callB (kIsi K rfl) rfl T.b_isinstance bt_isinstance (pa_cons (pv 0) (pa_cons (pTy rfl T.b_int bt_int) pa_nil))) (pe_one (pe_not (pe_callB (kIsi K rfl) rfl T.b_isinstance bt_isinstance (pa_cons (pv 0) (pa_cons (pTy rfl T.b_bool bt_bool) pa_nil)))))))), ?_⟩
  refine ⟨_, rfl, _, _, _, _, _, rfl, .ty _, hv.ty, kit_int d, _, rfl, ?_⟩
  cases d with
  | int i => exact iteT ⟨_, rfl, _, _, _, _, _, rfl, .ty _, hv.ty, kit_bool _, _, rfl, q⟩
  | bool b => exact iteT ⟨_, rfl, _, _, _, _, _, rfl, .ty _, hv.ty, kit_bool _, _, rfl, q⟩
  | _ => exact iteF q
theorem ok_is_countT (F : Fun K "is_count" "is_count" s_is_count f fd) (T : Txt K mg aS a1 a2) (c_is_integerT : C8.Cal P w K mg base 1 "is_integer" spIsIntT []) : FnOk P w K mg base CX0 2 f fd ["value"] spIsCntT := by
  refine F.ok sc_is_count (fun vs H Q E h => ?_) (fun cdv A outer s H vs Q E hr h => ?_)
  · obtain ⟨p, v, d, rfl, _⟩ := h
    rfl
  obtain ⟨p, v, d, rfl, hv, q⟩ := h
  refine ⟨_, (pss_one (ps_ret (pe_and (C8.pe_c c_is_integerT hr (by decide) rfl (pa_cons (pv 0) pa_nil)) (pe_one (pe_cmpR op_ge (pv 0) pe_int (nomark _)))))), ?_⟩
  refine ⟨_, rfl, p, v, d, rfl, hv, _, rfl, ?_⟩
  cases hv with
  | int i => exact iteT ⟨_, rfl, _, _, rfl, rfl, q⟩
  | _ => exact iteF q
theorem ok_is_belowT (F : Fun K "is_below" "is_below" s_is_below f fd) (T : Txt K mg aS a1 a2) (c_is_countT : C8.Cal P w K mg base 2 "is_count" spIsCntT []) : FnOk P w K mg base CX0 3 f fd ["value", "limit"] spIsBelT := by
  refine F.ok sc_is_below (fun vs H Q E h => ?_) (fun cdv A outer s H vs Q E hr h => ?_)
  · obtain ⟨p, v, d, m, rfl, _⟩ := h
    rfl
  obtain ⟨p, v, d, m, rfl, hv, q⟩ := h
  refine ⟨_, (pss_one (ps_ret (pe_and (C8.pe_c c_is_countT hr (by decide) rfl (pa_cons (pv 0) pa_nil)) (pe_one (pe_cmpR op_lt (pv 0) (pv 1) (nomark _)))))), ?_⟩
  refine ⟨_, rfl, p, v, d, rfl, hv, _, rfl, ?_⟩
  cases hv with
  | int i =>
    have e : belD m (.int i) = (decide (0 ≤ i) && decide (i < (m : Int))) := rfl
    rw [e] at q
    by_cases z : 0 ≤ i
    · rw [decide_eq_true z, Bool.true_and] at q
      exact iteTd (decide_eq_true z) ⟨_, rfl, _, rfl, _, _, rfl, rfl, q⟩
    · rw [decide_eq_false z, Bool.false_and] at q
      exact iteFd (decide_eq_false z) q
  | _ => exact iteF q
theorem ok_is_textT (F : Fun K "is_text" "is_text" s_is_text f fd) (T : Txt K mg aS a1 a2) : FnOk P w K mg base CX0 1 f fd ["value"] spIsTextT := by
  refine F.ok sc_is_text (fun vs H Q E h => ?_) (fun cdv A outer s H vs Q E hr h => ?_)
  · obtain ⟨p, v, d, rfl, _⟩ := h
    rfl
  obtain ⟨p, v, d, rfl, hv, sh, q⟩ := h
  refine ⟨_, (pss_one (ps_ret (pe_and (pe_callB (kIsi K rfl) rfl T.b_isinstance bt_isinstance (pa_cons (pv 0) (pa_cons (pTy rfl T.b_str bt_str) pa_nil))) (pe_one (pe_callB (kAll K rfl rfl) rfl T.b_all bt_all (pa_cons (pe_lc (own := [("sign", 1)]) rfl sc_is_text.nd (pi_str (pv 0)) (blkOk_by (N := N_is_text) (sc := defScope s_is_text) (by decide +kernel)) (fun _ _ _ _ _ => (pg_name (i := 1) sc_is_text.nd rfl (Or.inl rfl))) (fun _ _ _ _ _ => pts_nil) (fun _ _ _ _ _ => (pe_cmpR (kIn K rfl) (pv 1) (C8.pe_gc rfl T.g_SIGNS) rfl))) pa_nil)))))), ?_⟩
  refine ⟨_, rfl, _, _, _, _, _, rfl, .ty _, hv.ty, kit_str d, _, rfl, ?_⟩
  cases hv with
  | str z =>
    have sh : z.cps.size ≤ 100000 := sh
    refine iteT ?_
    refine ⟨_, rfl, _, rfl, fun D hD => lc_it walk_str (fun i H' => Same H H' ∧ H' D = some (.lst ((z.cps.toList.take i).map fun c => V.bl (chrB c)))) ⟨same_new hD _, upd_same⟩ (fun _ _ _ _ => trivial) ?_ ?_⟩
    · rintro i x H1 H2 hi ⟨sm, hd⟩ ⟨rfl, c, hc, rfl⟩
      refine ⟨rfl, tyI ?_⟩
      refine ⟨_, rfl, _, _, rfl, .inr (T.k_SIGNS _), rfl, rfl, ?_⟩
      rw [if_neg Bool.false_ne_true]
      have hl : z.cps.toList[i]? = some c := by rw [Array.getElem?_toList]; exact hc
      have ein : L2.inV (V.str { cps := #[c] }) [V.str (Str.ofString "0"), V.str (Str.ofString "1")] = chrB c := by
        have e0 : Str.ofString "0" = ⟨#[48]⟩ := by decide +kernel
        have e1 : Str.ofString "1" = ⟨#[49]⟩ := by decide +kernel
        rw [e0, e1]
        show ((⟨#[48]⟩ : Str) == ⟨#[c]⟩ || ((⟨#[49]⟩ : Str) == ⟨#[c]⟩ || false)) = (c == 48 || c == 49)
        have key : ∀ k : Nat, ((⟨#[k]⟩ : Str) == ⟨#[c]⟩) = (c == k) := fun k => by
          by_cases e : c = k
          · subst e; simp
          · rw [show (c == k) = false from beq_eq_false_iff_ne.mpr e]
            refine beq_eq_false_iff_ne.mpr fun z => e ?_
            have := congrArg Str.cps z
            simpa using this.symm
        rw [key, key, Bool.or_false]
      rw [ein]
      refine ⟨_, hd, ?_, fun b o e => ?_, ?_⟩
      · rw [List.length_map, List.length_take]
        exact Nat.lt_of_le_of_lt (Nat.min_le_left _ _) (Nat.lt_of_lt_of_le (show i < 100000 by omega) (by decide))
      · rw [upd_ne (ne_of_none e hD)]
        exact sm _ _ e
      · rw [upd_same, List.take_add_one, hl, List.map_append]
        rfl
    · rintro H1 ⟨sm, hd⟩
      rw [List.take_of_length_le (by rw [Array.length_toList]; exact Nat.le_refl _)] at hd
      refine ⟨_, z.cps.toList.map chrB, rfl, SqL.of (by rw [hd, List.map_map]; rfl), ?_⟩
      rw [List.all_map]
      exact q _ sm
  | _ => exact iteF (q _ fun _ _ e => e)
theorem ok_is_text_ofT (F : Fun K "is_text_of" "is_text_of" s_is_text_of f fd) (T : Txt K mg aS a1 a2) (c_is_textT : C8.Cal P w K mg base 1 "is_text" spIsTextT []) : FnOk P w K mg base CX0 2 f fd ["value", "most"] spIsTextOfT := by
  refine F.ok sc_is_text_of (fun vs H Q E h => ?_) (fun cdv A outer s H vs Q E hr h => ?_)
  · obtain ⟨p, v, d, m, rfl, _⟩ := h
    rfl
  obtain ⟨p, v, d, m, rfl, hv, sh, q⟩ := h
  refine ⟨_, (pss_one (ps_ret (pe_and (C8.pe_c c_is_textT hr (by decide) rfl (pa_cons (pv 0) pa_nil)) (pe_one (pe_cmpR op_le (pe_callB call_len_str rfl T.b_len bt_len (pa_cons (pv 0) pa_nil)) (pv 1) (nomark _)))))), ?_⟩
  refine ⟨_, rfl, p, v, d, rfl, hv, sh, fun H1 s1 => ⟨_, rfl, ?_⟩⟩
  cases hv with
  | str z =>
    have e : txtM m (.str z) = (textB z && decide (z.cps.size ≤ m)) := rfl
    rw [e] at q
    by_cases tz : textB z = true
    · rw [tz, Bool.true_and] at q
      refine iteTd tz ⟨_, rfl, _, rfl, Nat.le_trans (show z.length ≤ 100000 from sh) (by decide), _, rfl, _, _, rfl, rfl, ?_⟩
      have := q _ s1
      rw [show decide (z.cps.size ≤ m) = decide (((z.length : Nat) : Int) ≤ (m : Int)) from decide_eq_decide.mpr ⟨fun h => by show ((z.cps.size : Nat) : Int) ≤ _; omega, fun h => by have h : ((z.cps.size : Nat) : Int) ≤ (m : Int) := h; omega⟩] at this
      exact this
    · have tz : textB z = false := by simpa using tz
      rw [tz, Bool.false_and] at q
      exact iteFd tz (q _ s1)
  | _ => exact iteF (q _ s1)
theorem ok_is_listT2 (F : Fun K "is_list" "is_list" s_is_list f fd) (T : Txt K mg aS a1 a2) : FnOk P w K mg base CX0 1 f fd ["value"] (spIsListW w) := by
  refine F.ok sc_is_list (fun vs H Q E h => ?_) (fun cdv A outer s H vs Q E hr h => ?_)
  · obtain ⟨p, v, o, rfl, _⟩ := h
    rfl
  obtain ⟨p, v, o, rfl, hv, q⟩ := h
  refine ⟨_, (pss_one (ps_ret (pe_callB (kIsiTN K w rfl rfl) rfl T.b_isinstance bt_isinstance (pa_cons (pv 0) (pa_cons (pe_tup (pa_cons (pTy rfl T.b_list bt_list) (pa_cons (pTy rfl T.b_tuple bt_tuple) pa_nil))) pa_nil))))), ?_⟩
  refine ⟨_, rfl, sz rfl, fun p2 hp2 => ?_⟩
  obtain ⟨t, ty, kt⟩ := (hv.same (same_new hp2 (.tup [.ty "list", .ty "tuple"]))).ty (K := K)
  exact ⟨_, p2, _, _, _, _, rfl, upd_same, .cons (.ty _) (.cons (.ty _) .nil), ty, kt, q _ (same_new hp2 _)⟩
end
end FY


set_option Elab.async false
set_option linter.all false
set_option maxRecDepth 100000
set_option maxHeartbeats 4000000
namespace FY
open PySem L2 FYR
/-! ### how large a thing is -/
mutual
def strS : PyData → Bool
  | .str x => decide (x.cps.size ≤ 100000)
  | .list xs => strSA xs
  | .tuple xs => strSA xs
  | _ => true
def strSA : List PyData → Bool
  | [] => true
  | x :: xs => strS x && strSA xs
end
structure ElG (n W : Nat) (d : PyData) : Prop where
  dp : d.depth ≤ n
  sh : d.showable = true
  lf : d.leavesShort 8 = true
  ss : strS d = true
  wt : d.weight ≤ W
structure LsG (n W : Nat) (ds : List PyData) : Prop where
  dp : PyData.depthAll ds ≤ n
  sh : PyData.showableAll ds = true
  lf : PyData.leavesShortAll 8 ds = true
  ss : strSA ds = true
  wt : PyData.weightAll ds ≤ W
theorem ElG.up {n W n' W' : Nat} {d : PyData} (h : ElG n W d) (hn : n ≤ n') (hw : W ≤ W') : ElG n' W' d := ⟨Nat.le_trans h.dp hn, h.sh, h.lf, h.ss, Nat.le_trans h.wt hw⟩
theorem LsG.up {n W n' W' : Nat} {d : List PyData} (h : LsG n W d) (hn : n ≤ n') (hw : W ≤ W') : LsG n' W' d := ⟨Nat.le_trans h.dp hn, h.sh, h.lf, h.ss, Nat.le_trans h.wt hw⟩
theorem LsG.nil {n W : Nat} : LsG n W [] := ⟨Nat.zero_le _, rfl, rfl, rfl, Nat.zero_le _⟩
theorem LsG.cons {n W V : Nat} {d : PyData} {ds : List PyData} (h : ElG n W d) (g : LsG n V ds) : LsG n (W + 1 + V) (d :: ds) := by
  refine ⟨by rw [PyData.depthAll]; exact Nat.max_le.mpr ⟨h.dp, g.dp⟩, by simp [PyData.showableAll, h.sh, g.sh], by simp [PyData.leavesShortAll, h.lf, g.lf], by simp [strSA, h.ss, g.ss], ?_⟩
  have := h.wt
  have := g.wt
  simp only [PyData.weightAll]
  omega
theorem LsG.inv {n W : Nat} {d : PyData} {ds : List PyData} (h : LsG n W (d :: ds)) : ElG n W d ∧ LsG n (W - d.weight - 1) ds ∧ d.weight + 1 ≤ W := by
  have h1 := h.dp
  have h2 := h.sh
  have h3 := h.lf
  have h4 := h.ss
  have h5 := h.wt
  simp only [PyData.depthAll] at h1
  simp only [PyData.showableAll, Bool.and_eq_true] at h2
  simp only [PyData.leavesShortAll, Bool.and_eq_true] at h3
  simp only [strSA, Bool.and_eq_true] at h4
  simp only [PyData.weightAll] at h5
  have := Nat.max_le.mp h1
  exact ⟨⟨this.1, h2.1, h3.1, h4.1, by omega⟩, ⟨this.2, h2.2, h3.2, h4.2, by omega⟩, by omega⟩
theorem LsG.app {n W V : Nat} : ∀ {ds es : List PyData}, LsG n W ds → LsG n V es → LsG n (W + V) (ds ++ es)
  | [], es, _, g => g.up (Nat.le_refl _) (Nat.le_add_left _ _)
  | d :: ds, es, h, g => by
    obtain ⟨h1, h2, h3⟩ := h.inv
    have ih := h2.app g
    have e := LsG.cons (W := d.weight) ⟨h1.dp, h1.sh, h1.lf, h1.ss, Nat.le_refl _⟩ ih
    exact e.up (Nat.le_refl _) (by omega)
theorem LsG.mem {n W : Nat} : ∀ {ds : List PyData} {d : PyData}, LsG n W ds → d ∈ ds → ElG n W d
  | [], _, _, h => nomatch h
  | d :: ds, x, h, hx => by
    obtain ⟨h1, h2, h3⟩ := h.inv
    rcases List.mem_cons.mp hx with rfl | hx
    · exact h1
    · exact (h2.mem hx).up (Nat.le_refl _) (by omega)
theorem LsG.drop {n W : Nat} : ∀ {ds : List PyData} (k : Nat), LsG n W ds → LsG n W (ds.drop k)
  | _, 0, h => h
  | [], k + 1, h => h
  | d :: ds, k + 1, h => by
    obtain ⟨h1, h2, h3⟩ := h.inv
    exact (h2.drop k).up (Nat.le_refl _) (by omega)
theorem LsG.take {n W : Nat} : ∀ {ds : List PyData} (k : Nat), LsG n W ds → LsG n W (ds.take k)
  | _, 0, h => LsG.nil
  | [], k + 1, h => h
  | d :: ds, k + 1, h => by
    obtain ⟨h1, h2, h3⟩ := h.inv
    have e := LsG.cons (W := d.weight) ⟨h1.dp, h1.sh, h1.lf, h1.ss, Nat.le_refl _⟩ (h2.take k)
    exact e.up (Nat.le_refl _) (by omega)
theorem LsG.rev {n W : Nat} : ∀ {ds : List PyData}, LsG n W ds → LsG n W ds.reverse
  | [], h => h
  | d :: ds, h => by
    obtain ⟨h1, h2, h3⟩ := h.inv
    rw [List.reverse_cons]
    have e := h2.rev.app (LsG.cons (W := d.weight) ⟨h1.dp, h1.sh, h1.lf, h1.ss, Nat.le_refl _⟩ LsG.nil (V := 0))
    exact e.up (Nat.le_refl _) (by omega)
theorem LsG.one {n W : Nat} {d : PyData} (h : ElG n W d) : LsG n (W + 1) [d] := (LsG.cons h (LsG.nil (W := 0)))
theorem LsG.lst {n W : Nat} {ds : List PyData} (h : LsG n W ds) : ElG (n + 1) W (.list ds) := ⟨Nat.succ_le_succ h.dp, h.sh, h.lf, h.ss, h.wt⟩
theorem LsG.tup {n W : Nat} {ds : List PyData} (h : LsG n W ds) : ElG (n + 1) W (.tuple ds) := ⟨Nat.succ_le_succ h.dp, h.sh, h.lf, h.ss, h.wt⟩
theorem elg_none : ElG 0 0 .none := ⟨Nat.le_refl _, rfl, rfl, rfl, Nat.le_refl _⟩
theorem elg_bool (b : Bool) : ElG 0 0 (.bool b) := ⟨Nat.le_refl _, rfl, rfl, rfl, Nat.le_refl _⟩
theorem elg_dict : ElG 1 0 (.dict []) := ⟨Nat.le_refl _, rfl, rfl, rfl, Nat.le_refl _⟩
def intB (i : Int) : Bool := (PyData.int i).showable && (PyData.int i).leavesShort 8 && decide ((PyData.int i).weight ≤ 7)
theorem elg_int {i : Int} (h : intB i = true) : ElG 0 7 (.int i) := by
  unfold intB at h
  simp only [Bool.and_eq_true, decide_eq_true_eq] at h
  exact ⟨Nat.le_refl _, h.1.1, h.1.2, rfl, h.2⟩
theorem smallI : ∀ k : Fin 101, intB (k.val : Int) = true := by decide +kernel
theorem elg_nat {k : Nat} (h : k ≤ 100) : ElG 0 7 (.int (k : Int)) := elg_int (smallI ⟨k, by omega⟩)
theorem elg_tx {b : List Bool} {m : Nat} (h : b.length ≤ m) (hm : m ≤ 100000) : ElG 0 m (.str (tx b)) := by
  refine ⟨Nat.le_refl _, rfl, ?_, ?_, by show (tx b).cps.size ≤ m; rw [tx_size]; exact h⟩
  · show (tx b).cps.toList.all (fun c => decide (c < 16 ^ 8)) = true
    rw [tx_toList, List.all_map]
    refine List.all_eq_true.mpr fun c _ => ?_
    cases c <;> decide +kernel
  · show decide ((tx b).cps.size ≤ 100000) = true
    rw [tx_size]
    exact decide_eq_true (Nat.le_trans h hm)
def strB (s : Str) (m : Nat) : Bool := (PyData.str s).leavesShort 8 && decide (s.cps.size ≤ m)
theorem elg_str {s : Str} {m : Nat} (h : strB s m = true) (hm : m ≤ 100000) : ElG 0 m (.str s) := by
  unfold strB at h
  simp only [Bool.and_eq_true, decide_eq_true_eq] at h
  exact ⟨Nat.le_refl _, rfl, h.1, decide_eq_true (Nat.le_trans h.2 hm), h.2⟩
theorem ElG.shown {n W : Nat} {d : PyData} (h : ElG n W d) (hw : W ≤ 1600000) : d.shown.length ≤ sizeLine := by
  have := PyData.shown_le 8 (Nat.le_refl _) d h.lf
  have := h.wt
  show _ ≤ 2 ^ 24
  omega
theorem ElG.short {n W : Nat} {d : PyData} (h : ElG n W d) : shortD d := by
  have s := h.ss
  cases d with
  | str x => 
    have e : decide (x.cps.size ≤ 100000) = true := s
    show x.cps.size ≤ 100000
    exact of_decide_eq_true e
  | _ => trivial
/-- a value that is not too large -/
def GdV (p : Addr) (W : Nat) (G : Hp) (v : V) : Prop := ∃ d, Tv p G v d ∧ ElG 3 W d
theorem GdV.kp {p : Addr} {W : Nat} {G G' : Hp} (k : Kp p G G') {v : V} : GdV p W G v → GdV p W G' v := fun ⟨d, h, g⟩ => ⟨d, h.kp k, g⟩
def AllG (p : Addr) (W : Nat) (G : Hp) (vs : List V) : Prop := ∀ v ∈ vs, GdV p W G v
theorem AllG.kp {p : Addr} {W : Nat} {G G' : Hp} (k : Kp p G G') {vs : List V} (h : AllG p W G vs) : AllG p W G' vs := fun v hv => (h v hv).kp k
theorem AllG.add {p : Addr} {W : Nat} {G : Hp} {vs : List V} {v : V} (h : AllG p W G vs) (g : GdV p W G v) : AllG p W G (vs ++ [v]) := fun x hx => by
  rcases List.mem_append.mp hx with hx | hx
  · exact h x hx
  · rw [List.mem_singleton.mp hx]; exact g
theorem AllG.nil {p : Addr} {W : Nat} {G : Hp} : AllG p W G [] := fun _ h => nomatch h
theorem AllG.app {p : Addr} {W : Nat} {G : Hp} {vs us : List V} (h : AllG p W G vs) (g : AllG p W G us) : AllG p W G (vs ++ us) := fun x hx => (List.mem_append.mp hx).elim (h x) (g x)
mutual
/-- what does not reach the list at z stays when that list is changed -/
theorem Tv.off {p z : Addr} {G G' : Hp} (k : ∀ b o, b ≠ z → G b = some o → G' b = some o) : ∀ (d : PyData) {d' : PyData} {v : V}, Tv p G v d → Tv z G v d' → Tv p G' v d
  | .none, _, _, h, _ => by cases h; exact .non
  | .bool b, _, _, h, _ => by cases h; exact .bl _
  | .int i, _, _, h, _ => by cases h; exact .int _
  | .str x, _, _, h, _ => by cases h; exact .str _
  | .list ds, _, _, h, g => by
    cases h with
    | lst n e r =>
      cases g with
      | lst n2 e2 r2 =>
        rw [e] at e2
        cases e2
        exact .lst n (k _ _ n2 e) (TvAll.off k ds r r2)
      | tup n2 e2 r2 => rw [e] at e2; cases e2
      | dic n2 e2 => rw [e] at e2; cases e2
      | dcI n2 e2 r2 => rw [e] at e2; cases e2
  | .tuple ds, _, _, h, g => by
    cases h with
    | tup n e r =>
      cases g with
      | tup n2 e2 r2 =>
        rw [e] at e2
        cases e2
        exact .tup n (k _ _ n2 e) (TvAll.off k ds r r2)
      | lst n2 e2 r2 => rw [e] at e2; cases e2
      | dic n2 e2 => rw [e] at e2; cases e2
      | dcI n2 e2 r2 => rw [e] at e2; cases e2
  | .dict kv, _, _, h, g => by
    cases h with
    | dic n e =>
      cases g with
      | dic n2 e2 => exact .dic n (k _ _ n2 e)
      | dcI n2 e2 r2 => exact .dic n (k _ _ n2 e)
      | lst n2 e2 r2 => rw [e] at e2; cases e2
      | tup n2 e2 r2 => rw [e] at e2; cases e2
    | dcI n e r =>
      cases g with
      | dic n2 e2 =>
        rw [e] at e2
        cases e2
        cases r
        exact .dic n (k _ _ n2 e)
      | dcI n2 e2 r2 =>
        rw [e] at e2
        cases e2
        exact .dcI n (k _ _ n2 e) (TvKv.off k kv r r2)
      | lst n2 e2 r2 => rw [e] at e2; cases e2
      | tup n2 e2 r2 => rw [e] at e2; cases e2
theorem TvAll.off {p z : Addr} {G G' : Hp} (k : ∀ b o, b ≠ z → G b = some o → G' b = some o) : ∀ (ds : List PyData) {ds' : List PyData} {vs : List V}, TvAll p G vs ds → TvAll z G vs ds' → TvAll p G' vs ds
  | [], _, _, h, _ => by cases h; exact .nil
  | d :: ds, _, _, h, g => by
    cases h with
    | cons a b =>
      cases g with
      | cons a2 b2 => exact .cons (Tv.off k d a a2) (TvAll.off k ds b b2)
theorem TvKv.off {p z : Addr} {G G' : Hp} (k : ∀ b o, b ≠ z → G b = some o → G' b = some o) : ∀ (ds : List (PyData × PyData)) {ds' : List (PyData × PyData)} {vs : List (Key × V)}, TvKv p G vs ds → TvKv z G vs ds' → TvKv p G' vs ds
  | [], _, _, h, _ => by cases h; exact .nil
  | (_, d) :: ds, _, _, h, g => by
    cases h with
    | cons a b =>
      cases g with
      | cons a2 b2 => exact .cons (Tv.off k d a a2) (TvKv.off k ds b b2)
end
theorem elg_kv {n W : Nat} {kd : List (PyData × PyData)} (h : ∀ x ∈ kd, ElG n W x.1 ∧ ElG n W x.2) : ElG (n + 1) ((2 * W + 2) * kd.length) (.dict kd) := by
  have key : ∀ kd : List (PyData × PyData), (∀ x ∈ kd, ElG n W x.1 ∧ ElG n W x.2) → PyData.depthKv kd ≤ n ∧ PyData.showableKv kd = true ∧ PyData.leavesShortKv 8 kd = true ∧ PyData.weightKv kd ≤ (2 * W + 2) * kd.length := by
    intro kd
    induction kd with
    | nil => exact fun _ => ⟨Nat.zero_le _, rfl, rfl, Nat.zero_le _⟩
    | cons x r ih =>
      intro h
      obtain ⟨a, b⟩ := x
      obtain ⟨ha, hb⟩ := h (a, b) List.mem_cons_self
      obtain ⟨i1, i2, i3, i4⟩ := ih fun y hy => h y (List.mem_cons_of_mem _ hy)
      have a1 := ha.dp
      have b1 := hb.dp
      have a4 := ha.wt
      have b4 := hb.wt
      dsimp only at a1 b1 a4 b4
      refine ⟨?_, ?_, ?_, ?_⟩
      · show max (max (PyData.depth a) (PyData.depth b)) (PyData.depthKv r) ≤ n
        omega
      · show (PyData.showable a && PyData.showable b && PyData.showableKv r) = true
        rw [ha.sh, hb.sh, i2]; rfl
      · show (PyData.leavesShort 8 a && PyData.leavesShort 8 b && PyData.leavesShortKv 8 r) = true
        rw [ha.lf, hb.lf, i3]; rfl
      · show PyData.weight a + PyData.weight b + 2 + PyData.weightKv r ≤ _
        rw [List.length_cons, Nat.mul_succ]
        omega
  obtain ⟨i1, i2, i3, i4⟩ := key kd h
  exact ⟨Nat.succ_le_succ i1, i2, i3, rfl, i4⟩
theorem fresh_ne {p t : Addr} {G : Hp} (po : Pot p G) (ht : G t = none) : t ≠ p := fun e => by
  obtain ⟨c, d, h, _⟩ := po
  rw [e, h] at ht
  cases ht
theorem gd_tup {p t : Addr} {W : Nat} {G : Hp} {xs : List V} {ds : List PyData} (ne : t ≠ p) (ht : G t = none) (tv : TvAll p G xs ds) (lg : LsG 2 W ds) : GdV p W (upd G t (.tup xs)) (.ref t) := ⟨_, .tup ne upd_same (tv.same (same_new ht _)), lg.tup⟩
theorem gd_lst {p t : Addr} {W : Nat} {G : Hp} {xs : List V} {ds : List PyData} (ne : t ≠ p) (ht : G t = none) (tv : TvAll p G xs ds) (lg : LsG 2 W ds) : GdV p W (upd G t (.lst xs)) (.ref t) := ⟨_, .lst ne upd_same (tv.same (same_new ht _)), lg.lst⟩
theorem gd_dic {p t : Addr} {W : Nat} {G : Hp} (ne : t ≠ p) : GdV p W (upd G t (.dK [])) (.ref t) := ⟨_, .dic ne upd_same, elg_dict.up (by decide) (Nat.zero_le _)⟩
theorem gd_non {p : Addr} {W : Nat} {G : Hp} : GdV p W G .non := ⟨_, .non, elg_none.up (Nat.zero_le _) (Nat.zero_le _)⟩
theorem gd_bl {p : Addr} {W : Nat} {G : Hp} (b : Bool) : GdV p W G (.bl b) := ⟨_, .bl b, (elg_bool b).up (Nat.zero_le _) (Nat.zero_le _)⟩
theorem gd_int {p : Addr} {W : Nat} {G : Hp} {i : Int} (h : intB i = true) (hw : 7 ≤ W) : GdV p W G (.int i) := ⟨_, .int i, (elg_int h).up (Nat.zero_le _) hw⟩
theorem gd_str {p : Addr} {W : Nat} {G : Hp} {s : Str} (h : strB s 7 = true) (hw : 7 ≤ W) : GdV p W G (.str s) := ⟨_, .str s, (elg_str h (by decide)).up (Nat.zero_le _) hw⟩
theorem LsG.put {n W V : Nat} {x : PyData} (g : ElG n V x) : ∀ {ds : List PyData} (j : Nat), LsG n W ds → LsG n (W + V + 1) (ds.take j ++ [x] ++ ds.drop (j + 1))
  | ds, 0, h => by
    cases ds with
    | nil => exact (LsG.one g).up (Nat.le_refl _) (by omega)
    | cons d r =>
      obtain ⟨h1, h2, h3⟩ := h.inv
      exact (LsG.cons g h2).up (Nat.le_refl _) (by omega)
  | [], j + 1, h => (LsG.one g).up (Nat.le_refl _) (by omega)
  | d :: ds, j + 1, h => by
    obtain ⟨h1, h2, h3⟩ := h.inv
    have ih := LsG.put g (ds := ds) j h2
    have e := LsG.cons (W := d.weight) ⟨h1.dp, h1.sh, h1.lf, h1.ss, Nat.le_refl _⟩ ih
    exact e.up (Nat.le_refl _) (by omega)
theorem LsG.cut {n W : Nat} : ∀ {ds : List PyData} (j : Nat), LsG n W ds → LsG n W (ds.take j ++ ds.drop (j + 1))
  | ds, 0, h => h.drop 1
  | [], j + 1, h => h
  | d :: ds, j + 1, h => by
    obtain ⟨h1, h2, h3⟩ := h.inv
    have ih := LsG.cut (ds := ds) j h2
    have e := LsG.cons (W := d.weight) ⟨h1.dp, h1.sh, h1.lf, h1.ss, Nat.le_refl _⟩ ih
    exact e.up (Nat.le_refl _) (by omega)
theorem cutV_mid (xs : List V) (lo hi : Option Int) : ∃ a b, cutV xs lo hi = (xs.drop a).take b := ⟨_, _, rfl⟩
mutual
/-- nothing of it stands at a fresh address -/
theorem Tv.at_fresh {p z : Addr} {G : Hp} (hz : G z = none) : ∀ (d : PyData) {v : V}, Tv p G v d → Tv z G v d
  | .none, _, h => by cases h; exact .non
  | .bool b, _, h => by cases h; exact .bl _
  | .int i, _, h => by cases h; exact .int _
  | .str x, _, h => by cases h; exact .str _
  | .list ds, _, h => by
    cases h with
    | lst n e r => exact .lst (ne_of_none e hz) e (TvAll.at_fresh hz ds r)
  | .tuple ds, _, h => by
    cases h with
    | tup n e r => exact .tup (ne_of_none e hz) e (TvAll.at_fresh hz ds r)
  | .dict kv, _, h => by
    cases h with
    | dic n e => exact .dic (ne_of_none e hz) e
    | dcI n e r => exact .dcI (ne_of_none e hz) e (TvKv.at_fresh hz kv r)
theorem TvAll.at_fresh {p z : Addr} {G : Hp} (hz : G z = none) : ∀ (ds : List PyData) {vs : List V}, TvAll p G vs ds → TvAll z G vs ds
  | [], _, h => by cases h; exact .nil
  | d :: ds, _, h => by
    cases h with
    | cons a b => exact .cons (Tv.at_fresh hz d a) (TvAll.at_fresh hz ds b)
theorem TvKv.at_fresh {p z : Addr} {G : Hp} (hz : G z = none) : ∀ (ds : List (PyData × PyData)) {vs : List (Key × V)}, TvKv p G vs ds → TvKv z G vs ds
  | [], _, h => by cases h; exact .nil
  | (_, d) :: ds, _, h => by
    cases h with
    | cons a b => exact .cons (Tv.at_fresh hz d a) (TvKv.at_fresh hz ds b)
end
end FY

set_option Elab.async false
set_option linter.all false
set_option maxRecDepth 100000
set_option maxHeartbeats 4000000
namespace FYR
open PySem PySem.Spec PyProof.Rows L2 PySem.W PySem.SeqAt
/-! xs > ys, lists of whole numbers -/
def lexI : List Int → List Int → Bool
  | [], [] => false
  | [], _ :: _ => true
  | _ :: _, [] => false
  | a :: as, b :: bs => if a = b then lexI as bs else decide (a < b)
theorem toks_int (ns : List Int) : keyToksAll (ns.map PyData.int) = ns.flatMap (fun n => [Sum.inl 1, Sum.inl n]) ++ [Sum.inl 0] := by
  induction ns with
  | nil => simp [keyToksAll]
  | cons n r ih => simp [keyToksAll, keyToks, ih]
theorem lex_int : ∀ ns ms : List Int, dataLt (.list (ns.map PyData.int)) (.list (ms.map PyData.int)) = lexI ns ms := by
  intro ns
  induction ns with
  | nil =>
    intro ms
    cases ms with
    | nil =>
      show PyProof.Rows.lexLt itemOrd [Sum.inl 0] [Sum.inl 0] = false
      exact lex_irrefl _
    | cons m r =>
      show PyProof.Rows.lexLt itemOrd [Sum.inl 0] (Sum.inl 1 :: _) = true
      rw [lex_diff (O := itemOrd) (by simp)]
      rfl
  | cons n r ih =>
    intro ms
    cases ms with
    | nil =>
      show PyProof.Rows.lexLt itemOrd (Sum.inl 1 :: _) [Sum.inl 0] = false
      rw [lex_diff (O := itemOrd) (by simp)]
      rfl
    | cons m s =>
      show PyProof.Rows.lexLt itemOrd (Sum.inl 1 :: Sum.inl n :: keyToksAll (r.map PyData.int)) (Sum.inl 1 :: Sum.inl m :: keyToksAll (s.map PyData.int)) = _
      rw [lex_self (O := itemOrd)]
      by_cases z : n = m
      · subst z
        rw [lex_self (O := itemOrd)]
        have := ih s
        unfold dataLt at this
        show _ = (if n = n then _ else _)
        rw [if_pos rfl]
        exact this
      · rw [lex_diff (O := itemOrd) (fun y => z (Sum.inl.inj y))]
        show decide (n < m) = (if n = m then _ else _)
        rw [if_neg z]
theorem alike_int : ∀ ns ms : List Int, alikeAll (ns.map PyData.int) (ms.map PyData.int) = true
  | [], _ => by simp [alikeAll]
  | _ :: _, [] => by simp [alikeAll]
  | a :: as, b :: bs => by simp [alikeAll, alike, alike_int as bs]
def rGtL (K : PySem.W.Frag) : R2 := fun x y H Q => ∃ ns ms : List Int, Dp K H x (.list (ns.map PyData.int)) ∧ Dp K H y (.list (ms.map PyData.int)) ∧ Q (.bl (lexI ms ns)) H
theorem op_gtL {X : Cx} (hu : X.A.units + 64 < cLine) : OpR X (compareOp .Gt) (rGtL X.K) := by
  intro pins s σ H x y v u Q I rx ry h
  obtain ⟨ns, ms, hd, he, q⟩ := h
  obtain ⟨as, r1⟩ := Dp.reads I _ x v hd rx
  obtain ⟨bs, r2⟩ := Dp.reads I _ y u he ry
  refine gt_data r1 r2 (alike_int ns ms) (by simp) ?_ ⟨.bl (lexI ms ns), H, I, ?_, q⟩
  · have dp : ∀ ls : List Int, PyData.depth (.list (ls.map PyData.int)) ≤ 2 := fun ls => by
      have : PyData.depthAll (ls.map PyData.int) ≤ 1 := by
        induction ls with
        | nil => simp [PyData.depthAll]
        | cons a r ih => simp [PyData.depthAll, PyData.depth] at *; omega
      simp [PyData.depth]
      omega
    have := dp ns
    omega
  · rw [lex_int]
    rfl
end FYR

set_option Elab.async false
set_option linter.all false
set_option maxRecDepth 100000
set_option maxHeartbeats 4000000
namespace FYR
open PySem PySem.Spec PyProof.Rows L2 RZ
section
variable {X : Cx} (K : PySem.W.Frag) (hK : X.K = K)
include hK
theorem kCatA : OpR X (binaryOp .Add) (rCatA K) := by subst hK; exact op_catA
theorem kGtL (hu : X.A.units + 64 < cLine) : OpR X (compareOp .Gt) (rGtL K) := by subst hK; exact op_gtL hu
theorem kSortI : CallR X (.builtin "sorted") (rSortedI K) := by subst hK; exact cr_sortedI
theorem kZipA {e e2 : Expr} {ta : TA} {p pos tpos : Pos} {elts : List Expr} {kk : Nat} (hg : Gl X "zip") (hm : X.mg "zip" = none) (ha : PA X [e, e2] ta)
    (hs : starEach [e, e2] X.env = (false, eval e X.env) :: starEach [e2] X.env := by rfl) (hpl : (backTo pos (starEach [e2] X.env)).any (·.1) = false := by rfl) :
    PI X (.Tuple elts kk tpos) (.Call (.Name "zip" p) [e, e2] [] pos) (iZipA K ta) := by subst hK; exact pi_zipA hg hm ha hs hpl
end
/-! d[key], d a written dict of the module -/
def tKd (K : PySem.W.Frag) (d : Addr) (td ty : TE) : TE := fun σ H Q => td σ H fun x H1 => ty σ H1 fun y H2 => ∃ (z : Str) (u0 : Value) (v0 : V), x = .ref d ∧ y = .str z ∧ PySem.W.nsIn K d z = some (some u0) ∧ RelV v0 u0 ∧ Q v0 H2
theorem pe_kd {X : Cx} {K : PySem.W.Frag} {w : World} {d : Addr} {es : Array DictEntry} {n : Nat} {o i : Expr} {pos : Pos} {td ty : TE} (hK : X.K = K) (hw : X.w = w) (D : KDict K w d es n) (ho : PE X o td) (hi : PE X i ty) (hs : NoSl i) : PE X (.Subscript o i pos) (tKd K d td ty) := by
  subst hK
  subst hw
  refine ⟨fun pins s σ H Q I h => ?_⟩
  refine subD_of PySem.F.slot_dict_getitem.lookup hs (thn (ho.run pins s σ H _ I h) fun u s1 ⟨x, H1, I1, rx, q1⟩ => thn (hi.run pins s1 σ H1 _ I1 q1) fun iv s2 ⟨y, H2, I2, ry, z, u0, v0, ex, ey, e, r, q2⟩ => ?_)
  subst ex
  subst ey
  obtain rfl : u = Value.ref d := rx
  exact ⟨kd_type D I2, op_item_kd D pins s2 σ H2 (.ref d) (.str z) _ _ _ I2 (show RelV (.ref d) (.ref d) from rfl) ry ⟨z, u0, v0, rfl, rfl, e, r, q2⟩⟩
end FYR

set_option Elab.async false
set_option linter.all false
set_option maxRecDepth 100000
set_option maxHeartbeats 4000000
namespace FY
open PySem L2 FYR
/-! ## values told over several lists at once -/
def ZL (Z : List Addr) (G : Hp) : Prop := ∀ z ∈ Z, ∃ xs, G z = some (.lst xs)
def TZ (Z : List Addr) (G : Hp) (v : V) (d : PyData) : Prop := ∀ z ∈ Z, Tv z G v d
def TZs (Z : List Addr) (G : Hp) (vs : List V) (ds : List PyData) : Prop := ∀ z ∈ Z, TvAll z G vs ds
def AllZ (Sz : PyData → Prop) (Z : List Addr) (G : Hp) (vs : List V) : Prop := ∀ v ∈ vs, ∃ d, TZ Z G v d ∧ Sz d
section
variable {Z : List Addr} {G G' : Hp} {v : V} {vs : List V} {d : PyData} {ds : List PyData} {Sz : PyData → Prop} {a z : Addr}
theorem TZ.off (h : TZ Z G v d) (hz : z ∈ Z) (k : Kp z G G') : TZ Z G' v d := fun y hy => Tv.off k d (h y hy) (h z hz)
theorem TZ.same (h : TZ Z G v d) (k : Same G G') : TZ Z G' v d := fun y hy => (h y hy).same k
theorem TZ.fresh (h : TZ Z G v d) (hz : z ∈ Z) (ha : G a = none) : TZ (a :: Z) G v d := fun y hy => by
  rcases List.mem_cons.mp hy with rfl | hy
  · exact Tv.at_fresh ha d (h z hz)
  · exact h y hy
theorem TZs.nil : TZs Z G [] [] := fun _ _ => .nil
theorem TZs.cons (h : TZ Z G v d) (t : TZs Z G vs ds) : TZs Z G (v :: vs) (d :: ds) := fun z hz => .cons (h z hz) (t z hz)
theorem TZs.one (h : TZ Z G v d) : TZs Z G [v] [d] := TZs.cons h TZs.nil
theorem TZs.same (h : TZs Z G vs ds) (k : Same G G') : TZs Z G' vs ds := fun y hy => (h y hy).same k
theorem tz_int (i : Int) : TZ Z G (.int i) (.int i) := fun _ _ => .int i
theorem tz_str (s : Str) : TZ Z G (.str s) (.str s) := fun _ _ => .str s
theorem tz_bl (b : Bool) : TZ Z G (.bl b) (.bool b) := fun _ _ => .bl b
theorem tz_non : TZ Z G .non .none := fun _ _ => .non
theorem ZL.nt (h : ZL Z G) (hz : z ∈ Z) {xs : List V} (e : G a = some (.tup xs)) : a ≠ z := fun e2 => by
  obtain ⟨ys, q⟩ := h z hz
  rw [← e2, e] at q
  cases q
theorem ZL.ne (h : ZL Z G) (hz : z ∈ Z) (e : G a = none) : a ≠ z := fun e2 => by
  obtain ⟨ys, q⟩ := h z hz
  rw [← e2, e] at q
  cases q
theorem ZL.same (h : ZL Z G) (k : Same G G') : ZL Z G' := fun z hz => let ⟨xs, e⟩ := h z hz; ⟨xs, k _ _ e⟩
theorem tz_tup {xs : List V} (zl : ZL Z G) (e : G a = some (.tup xs)) (t : TZs Z G xs ds) : TZ Z G (.ref a) (.tuple ds) := fun z hz => .tup (zl.nt hz e) e (t z hz)
theorem tz_lst {xs : List V} (n : ∀ z ∈ Z, a ≠ z) (e : G a = some (.lst xs)) (t : TZs Z G xs ds) : TZ Z G (.ref a) (.list ds) := fun z hz => .lst (n z hz) e (t z hz)
theorem AllZ.off (h : AllZ Sz Z G vs) (hz : z ∈ Z) (k : Kp z G G') : AllZ Sz Z G' vs := fun v hv => let ⟨d, t, s⟩ := h v hv; ⟨d, t.off hz k, s⟩
theorem AllZ.same (h : AllZ Sz Z G vs) (k : Same G G') : AllZ Sz Z G' vs := fun v hv => let ⟨d, t, s⟩ := h v hv; ⟨d, t.same k, s⟩
theorem AllZ.fresh (h : AllZ Sz Z G vs) (hz : z ∈ Z) (ha : G a = none) : AllZ Sz (a :: Z) G vs := fun v hv => let ⟨d, t, s⟩ := h v hv; ⟨d, t.fresh hz ha, s⟩
theorem AllZ.drop (h : AllZ Sz (a :: Z) G vs) : AllZ Sz Z G vs := fun v hv => let ⟨d, t, s⟩ := h v hv; ⟨d, fun z hz => t z (List.mem_cons_of_mem _ hz), s⟩
theorem AllZ.nil : AllZ Sz Z G [] := fun _ h => nomatch h
theorem AllZ.add (h : AllZ Sz Z G vs) (t : TZ Z G v d) (s : Sz d) : AllZ Sz Z G (vs ++ [v]) := fun x hx => by
  rcases List.mem_append.mp hx with hx | hx
  · exact h x hx
  · rw [List.mem_singleton.mp hx]; exact ⟨d, t, s⟩
theorem AllZ.app {us : List V} (h : AllZ Sz Z G vs) (g : AllZ Sz Z G us) : AllZ Sz Z G (vs ++ us) := fun x hx => (List.mem_append.mp hx).elim (h x) (g x)
end
/-- what stands by while values are built -/
structure SB (p : Addr) (Sz : PyData → Prop) (Z : List Addr) (B : Hp → Prop) (G : Hp) (vs : List V) : Prop where
  po : Pot p G
  pz : p ∈ Z
  zl : ZL Z G
  az : AllZ Sz Z G vs
  hb : ∀ G G', Kp p G G' → Pot p G' → B G → B G'
  b : B G
section
variable {p a : Addr} {Sz : PyData → Prop} {Z : List Addr} {B : Hp → Prop} {G G' : Hp} {vs : List V} {v : V} {d : PyData} {ds : List PyData} {xs : List V}
theorem SB.kp (s : SB p Sz Z B G vs) (k : Kp p G G') (po : Pot p G') : SB p Sz Z B G' vs := ⟨po, s.pz, fun z hz => by
  by_cases e : z = p
  · subst e
    obtain ⟨a, b, h, _⟩ := po
    exact ⟨_, h⟩
  · obtain ⟨xs, h⟩ := s.zl z hz
    exact ⟨xs, k _ _ e h⟩, s.az.off s.pz k, s.hb, s.hb _ _ k po s.b⟩
theorem SB.same (s : SB p Sz Z B G vs) (k : Same G G') : SB p Sz Z B G' vs := s.kp (Kp.of k) (s.po.same k)
theorem SB.add (s : SB p Sz Z B G vs) (t : TZ Z G v d) (z : Sz d) : SB p Sz Z B G (vs ++ [v]) := ⟨s.po, s.pz, s.zl, s.az.add t z, s.hb, s.b⟩
theorem SB.tup (s : SB p Sz Z B G vs) (ha : G a = none) (t : TZs Z G xs ds) (z : Sz (.tuple ds)) : SB p Sz Z B (upd G a (.tup xs)) (vs ++ [.ref a]) := by
  have k := same_new ha (.tup xs)
  have s2 := s.same k
  exact s2.add (tz_tup s2.zl upd_same (t.same k)) z
theorem SB.tz_new (s : SB p Sz Z B G vs) (ha : G a = none) (t : TZs Z G xs ds) : TZ Z (upd G a (.lst xs)) (.ref a) (.list ds) := tz_lst (fun z hz => s.zl.ne hz ha) upd_same (t.same (same_new ha _))
theorem SB.lst (s : SB p Sz Z B G vs) (ha : G a = none) (t : TZs Z G xs ds) (z : Sz (.list ds)) : SB p Sz Z B (upd G a (.lst xs)) (vs ++ [.ref a]) := (s.same (same_new ha _)).add (s.tz_new ha t) z
theorem SB.dic (s : SB p Sz Z B G vs) (ha : G a = none) (z : Sz (.dict [])) : SB p Sz Z B (upd G a (.dK [])) (vs ++ [.ref a]) := (s.same (same_new ha _)).add (fun y hy => .dic (s.zl.ne hy ha) upd_same) z
theorem SB.reb {B' : Hp → Prop} (s : SB p Sz Z B G vs) (hb : ∀ G G', Kp p G G' → Pot p G' → B' G → B' G') (b : B' G) : SB p Sz Z B' G vs := ⟨s.po, s.pz, s.zl, s.az, hb, b⟩
theorem SB.nil (s : SB p Sz Z B G vs) : SB p Sz Z B G [] := ⟨s.po, s.pz, s.zl, AllZ.nil, s.hb, s.b⟩
theorem SB.join {us : List V} (s : SB p Sz Z B G vs) (h : AllZ Sz Z G us) : SB p Sz Z B G (us ++ vs) := ⟨s.po, s.pz, s.zl, h.app s.az, s.hb, s.b⟩
/-- a list is laid that will be changed in place -/
theorem SB.more (s : SB p Sz Z B G vs) (ha : G a = none) : SB p Sz (a :: Z) B (upd G a (.lst xs)) vs := by
  have k := same_new ha (.lst xs)
  refine ⟨s.po.same k, List.mem_cons_of_mem _ s.pz, fun z hz => ?_, (s.az.fresh s.pz ha).same k, s.hb, s.hb _ _ (Kp.of k) (s.po.same k) s.b⟩
  rcases List.mem_cons.mp hz with rfl | hz
  · exact ⟨_, upd_same⟩
  · exact (s.zl.same k) z hz
/-- it is changed -/
theorem SB.set (s : SB p Sz Z B G vs) (hz : a ∈ Z) (ap : a ≠ p) (b : B (upd G a (.lst xs))) : SB p Sz Z B (upd G a (.lst xs)) vs := by
  have k : Kp a G (upd G a (.lst xs)) := fun b o n e => (upd_ne n).trans e
  refine ⟨?_, s.pz, fun z hz' => ?_, s.az.off hz k, s.hb, b⟩
  · obtain ⟨x, y, e, q⟩ := s.po
    exact ⟨x, y, (upd_ne (Ne.symm ap)).trans e, q⟩
  · by_cases e : z = a
    · exact ⟨xs, by rw [e, upd_same]⟩
    · obtain ⟨ys, h⟩ := s.zl z hz'
      exact ⟨ys, (upd_ne e).trans h⟩
theorem SB.less (s : SB p Sz (a :: Z) B G vs) (pz : p ∈ Z) : SB p Sz Z B G vs := ⟨s.po, pz, fun z hz => s.zl z (List.mem_cons_of_mem _ hz), s.az.drop, s.hb, s.b⟩
end
theorem catT {K : PySem.W.Frag} {H : Hp} {a b : Addr} {xs ys : List V} {Q : VK} (h1 : H a = some (.tup xs)) (h2 : H b = some (.tup ys)) (hz : xs.length + ys.length ≤ 1000) (q : ∀ H' r, Same H H' → H' r = some (.tup (xs ++ ys)) → Q (.ref r) H') : rCatA K (.ref a) (.ref b) H Q := by
  refine ⟨a, b, xs, ys, rfl, rfl, SqT.of h1, SqT.of h2, Nat.le_trans hz (by decide), fun e => ?_, fun _ e => ?_, fun _ _ r hr => ?_⟩
  · subst e
    exact q H b (fun _ _ e => e) h2
  · subst e
    exact q H a (fun _ _ e => e) (by rw [List.append_nil]; exact h1)
  · exact q _ r (same_new hr _) upd_same
theorem TZs.take {Z : List Addr} {G : Hp} {vs : List V} {ds : List PyData} (h : TZs Z G vs ds) (k : Nat) : TZs Z G (vs.take k) (ds.take k) := fun z hz => (h z hz).take k
theorem TZs.drop {Z : List Addr} {G : Hp} {vs : List V} {ds : List PyData} (h : TZs Z G vs ds) (k : Nat) : TZs Z G (vs.drop k) (ds.drop k) := fun z hz => (h z hz).drop k
end FY

set_option Elab.async false
set_option linter.all false
set_option maxRecDepth 100000
set_option maxHeartbeats 8000000
namespace FY
open PySem L2 FYR
/-! ## own exceptions over ValueError -/
/-- FlowError.__init__ and what inherits it -/
def spFEI (K : PySem.W.Frag) : Sp := fun vs H Q _ => ∃ (a C : Addr) (v : V), vs = [.ref a, v] ∧ OexC K C ∧ PySem.W.findIn K (.ref C) "value" = some none ∧ H a = some (exo a C none) ∧ ∀ dx, H dx = none → dx ≠ a → Q .non (upd (upd H dx (exd dx [("value", v)])) a (exo a C (some dx)))
section
variable {P : Program} {w : World} {K : PySem.W.Frag} {mg : Str → Option Value} {base : Heap} {aS a1 a2 aL aT : Addr} {f : Addr} {fd : FuncData}
abbrev s_FlowError___init__ : Stmt := inClass (top 10) 0
abbrev N_FlowError___init__ : List Str := ["self", "value"]
theorem sc_FlowError___init__ : FnScope N_FlowError___init__ ["self", "value"] (defScope s_FlowError___init__) := ⟨rfl, rfl, rfl, by decide +kernel, rfl, by decide +kernel, by decide +kernel⟩
theorem ok_FEI (F : Fun K "__init__" "FlowError.__init__" s_FlowError___init__ f fd) (b_VE : mg "ValueError" = none) (vV : PySem.W.findCls K (.type "ValueError") (.type "type") "__init__" = some (.val (.builtin "ValueError.__init__"))) : FnOk P w K mg base CX0 1 f fd ["self", "value"] (spFEI K) := by
  refine F.ok sc_FlowError___init__ (fun vs H Q E h => ?_) (fun cdv A outer s H vs Q E hr h => ?_)
  · obtain ⟨a, C, v, rfl, _⟩ := h
    rfl
  obtain ⟨a, C, v, rfl, T, no, ha, q⟩ := h
  refine ⟨_, (pss_cons (ps_expr (pe_veinit rfl b_VE vV (pa_cons (pv 0) (pa_cons pe_str pa_nil))))
      (pss_one (ps_ost (pv 0) (pv 1)))), ?_⟩
  refine ⟨_, rfl, a, C, _, rfl, ?_, T, ha, ?_⟩
  · exact (by decide : 1 ≤ 1000)
  exact ⟨_, rfl, _, rfl, a, C, rfl, T, no, .inl ⟨ha, fun dx h1 h2 => q dx h1 h2⟩⟩
end
end FY


set_option Elab.async false
set_option linter.all false
set_option maxRecDepth 100000
set_option maxHeartbeats 4000000
/-! len by an own __len__; properties, own == and own len of a class in short -/
namespace FYR
open PySem PySem.Spec PyProof.Rows L2
section
variable {X : Cx} {n : Nat} {C f : Addr} {fd : FuncData} {ps : List Str} {sp : Sp}
def rLenO (C : Addr) (sp : Sp) : List V → Hp → VK → Prop := fun xs H Q => ∃ (a dx : Addr) (fs : List (Str × V)), xs = [.ref a] ∧ H a = some (.ins C dx fs) ∧ sp [.ref a] H (fun v H' => ∃ k : Nat, v = .int (k : Nat) ∧ k ≤ 1000000 ∧ Q (.int (k : Nat)) H') C8.E0
theorem call_lenO (Fn : FnOk X.prog X.w X.K X.mg X.base C8.CX0 n f fd ps sp) (hs : PySem.W.findIn X.K (.ref C) "__len__" = some (some (.ref f))) (hf : PySem.W.isFn X.K (.ref f) = true) (hb : Binds X.K fd ps []) (hr : Room (n + 1) X.A) : CallR X (.builtin "len") (rLenO C sp) := by
  intro pins s σ H xs us Q I r h
  obtain ⟨a, dx, fs, rfl, ha, q⟩ := h
  obtain ⟨u, rfl, ru⟩ := r.one
  cases ru
  obtain ⟨mA, J, _⟩ := ins_get I.hok ha
  obtain ⟨od, J, _⟩ := J.look
  have spc : PySem.W.Looks (model X.prog X.w) s.heap (specialOf (.ref a) "__len__") (some (.ref f)) := J.type.andThen (PySem.W.looks_findIn I.kIn hs)
  have len := Fn.len _ _ _ _ q
  have e1 : Env0 X.prog X.w X.K X.mg X.base X.A.in1 X.stack s H := I.env0.in1
  have run : wpAny (model X.prog X.w) X.A.in1 (call (.ref f) [.ref a]) (fun v s' => ∃ k : Nat, ∃ t, v = .int (k : Nat) t ∧ k ≤ 1000000 ∧ ∃ H', Inv X pins σ H' s' ∧ Q (.int (k : Nat)) H') (fun _ _ => False) s := by
    refine wpAny_call (codeAny_mono (Fn.run X.A.in1 X.stack s H ⟨[.ref a], []⟩ [.ref a] [.ref a] _ C8.E0 hr.in1 e1 (by
      have z := hb s [.ref a] I.kIn (by simpa using len)
      simpa using z) (.cons rfl .nil) q) fun r s' hq => ?_)
    cases r with
    | error e => exact False.elim hq
    | ok fl =>
      cases fl with
      | ret w =>
        obtain ⟨z, H', I', rz, k, ez, kl, qk⟩ := I.after hq
        subst ez
        obtain ⟨t, rfl⟩ := rz
        exact ⟨k, t, rfl, kl, H', I', qk⟩
      | next => exact False.elim hq
      | brk => exact False.elim hq
      | cont => exact False.elim hq
  refine Calls.call_function_entry kind_len plain_len entry_len (args_len1 _) ?_
  unfold Builtin.«len»
  refine wpAny_bind (m := oneArg "len" _) (wpAny_pure ?_)
  refine wpAny_bind (m := callSpecial? (.ref a) (PySem.Str.ofString "__len__")) ?_
  simp only [callSpecial?]
  refine wpAny_bind (spc.here ?_)
  refine wpAny_holding (wpAny_bind ((PySem.W.bind_fn I.kIn _ (beq_iff_eq.mp hf)).here ?_))
  refine wpAny_bind (wpAny_mono run (fun v s' z => ?_) fun _ _ z => z.elim)
  obtain ⟨k, t, rfl, kl, H', I', qk⟩ := z
  refine wpAny_pure ?_
  refine wpAny_bind (wpAny_holding (wpAny_pure ?_))
  refine wpAny_bind (wpAny_letGo ?_)
  show wpAny _ _ (if ((k : Nat) : Int) < 0 then _ else _) _ _ _
  rw [if_neg (by omega)]
  show wpAny _ _ (if ((k : Nat) : Int) ≥ 2 ^ 63 then _ else _) _ _ _
  rw [if_neg (by omega)]
  exact wpAny_bind (wpAny_mkInt (wpAny_pure ⟨_, rfl, .int (k : Nat), H', I'.tok _, ⟨_, rfl⟩, qk⟩))
end
/-- the class at C has an own __len__ -/
structure LenC (P : Program) (w : World) (K : PySem.W.Frag) (mg : Str → Option Value) (base : Heap) (k : Nat) (C : Addr) (sp : Sp) : Prop where
  ex : ∃ (f : Addr) (fd : FuncData) (ps : List Str), FnOk P w K mg base C8.CX0 k f fd ps sp ∧ PySem.W.findIn K (.ref C) "__len__" = some (some (.ref f)) ∧ PySem.W.isFn K (.ref f) = true ∧ Binds K fd ps []
/-- the class at C has an own == -/
structure EqC (P : Program) (w : World) (K : PySem.W.Frag) (mg : Str → Option Value) (base : Heap) (k : Nat) (C : Addr) (R : Addr → Addr → Hp → Prop) : Prop where
  ex : ∃ (f : Addr) (fd : FuncData) (ps : List Str), FnOk P w K mg base C8.CX0 k f fd ps (spEq R) ∧ PySem.W.findIn K (.ref C) "__eq__" = some (some (.ref f)) ∧ PySem.W.isFn K (.ref f) = true ∧ Binds K fd ps []
  ne : PySem.W.findIn K (.ref C) "__ne__" = some (some (.builtin "object.__ne__"))
  hm : PySem.W.mroIn K C (.type "object") = some true
/-- .. a property -/
structure Prp (P : Program) (w : World) (K : PySem.W.Frag) (mg : Str → Option Value) (base : Heap) (k : Nat) (C : Addr) (x : Str) (sp : Sp) : Prop where
  ex : ∃ (p g : Addr) (fd : FuncData) (ps : List Str), Cls K C ∧ PropOf K C x p g ∧ FnOk P w K mg base C8.CX0 k g fd ps sp ∧ Binds K fd ps []
section
variable {X : Cx} {k j : Nat} {C : Addr} {sp : Sp} {R : Addr → Addr → Hp → Prop}
theorem kLenO (c : LenC X.prog X.w X.K X.mg X.base k C sp) (hr : Room j X.A) (hk : k + 1 ≤ j) : CallR X (.builtin "len") (rLenO C sp) := by
  obtain ⟨f, fd, ps, F, hs, hf, hb⟩ := c.ex
  exact call_lenO F hs hf hb (hr.mono hk)
theorem kEqO (c : EqC X.prog X.w X.K X.mg X.base k C R) (hr : Room j X.A) (hk : k ≤ j) : OpR X (compareOp .Eq) (rEqG (DIns C R)) := by
  obtain ⟨f, fd, ps, F, hs, hf, hb⟩ := c.ex
  exact op_eqG (rcG_ins F hs hf hb (C8.pass0 (E := C8.E0))) (hr.mono hk)
theorem kNeO (c : EqC X.prog X.w X.K X.mg X.base k C R) (hr : Room j X.A) (hk : k + 1 ≤ j) : OpR X (compareOp .NotEq) (rNeG (DIns C R)) := by
  obtain ⟨f, fd, ps, F, hs, hf, hb⟩ := c.ex
  exact op_neIns F hs c.ne c.hm hf hb (C8.pass0 (E := C8.E0)) (hr.mono hk)
theorem kNeTupO (K : PySem.W.Frag) (hK : X.K = K) (c : EqC X.prog X.w X.K X.mg X.base k C R) (mon : ∀ a b H H', Ext H H' → R a b H → R a b H') (hr : Room j X.A) (hk : k + 1 ≤ j) : OpR X (compareOp .NotEq) (rNeG (DTup K (DIns C R))) := by
  subst hK
  obtain ⟨f, fd, ps, F, hs, hf, hb⟩ := c.ex
  exact op_neTupG (mon_ins mon) (eqG_ins F hs hf hb (C8.pass0 (E := C8.E0))) (hr.mono hk)
theorem kPrp {x : Str} {e : Expr} {ta : TE} {pos : Pos} (c : Prp X.prog X.w X.K X.mg X.base k C x sp) (hr : Room j X.A) (hk : k + 1 ≤ j) (he : PE X e ta) (hab : attributeBase e x X.env (eval e X.env) = eval e X.env := by rfl) : PE X (.Attribute e x pos) (tProp C sp [] C8.E0 ta) := by
  obtain ⟨p, g, fd, ps, cl, hp, F, hb⟩ := c.ex
  exact pe_prop he cl hp F (hr.mono hk) hb .nil C8.pass0 hab
end
end FYR

set_option Elab.async false
set_option linter.all false
set_option maxRecDepth 100000
set_option maxHeartbeats 8000000
namespace FY
open PySem L2 FYR
/-! ## a standing that is none is refused -/
/-- an error's class over FlowError, which inherits its __init__ -/
structure IvC (K : PySem.W.Frag) (mg : Str → Option Value) (x : Str) (CE fI : Addr) : Prop where
  gC : mg x = some (.ref CE)
  ox : OexC K CE
  iC : PySem.W.findIn K (.ref CE) "__init__" = some (some (.ref fI))
  tI : PySem.W.typeIn K (.ref fI) = some (.type "function")
  no : PySem.W.findIn K (.ref CE) "value" = some none
/-- the error on its way -/
def ivE (CE : Addr) (E : XK) (H : Hp) (v : V) : Prop := ∀ H' d, Same H H' → H' d = some (.xd [("value", v)]) → E (.ref CE) (some d) H'
def spStLen (C : Addr) : Sp := fun vs H Q _ => ∃ (v : V) (t : Stn), vs = [v] ∧ StnA C H v t ∧ Q (.int (t.stgs.length : Nat)) H
def spWStX (C CE : Addr) : Sp := fun vs H Q E => ∃ (p : Addr) (s v : V) (t : Stn) (d : PyData), vs = [s, v] ∧ StnA C H s t ∧ t.stgs.length ≤ 1000 ∧ Tv p H v d ∧ (belD t.stgs.length d = true → Q .non H) ∧ (belD t.stgs.length d = false → ivE CE E H v)
section
variable {P : Program} {w : World} {K : PySem.W.Frag} {mg : Str → Option Value} {base : Heap} {aS a1 a2 aL aT : Addr} {f : Addr} {fd : FuncData} {C CE fI : Addr}
abbrev s_want_standing : Stmt := top 26
abbrev N_want_standing : List Str := ["station", "value"]
theorem sc_want_standing : FnScope N_want_standing ["station", "value"] (defScope s_want_standing) := ⟨rfl, rfl, rfl, by decide +kernel, rfl, by decide +kernel, by decide +kernel⟩
theorem ok_want_standingX {fdI : FuncData} (F : Fun K "want_standing" "want_standing" s_want_standing f fd) (T : Txt K mg aS a1 a2) (lS : LenC P w K mg base 1 C (spStLen C)) (M : IvC K mg "InvalidStanding" CE fI) (G : FnOk P w K mg base CX0 1 fI fdI ["self", "value"] (spFEI K)) (bI : Binds K fdI ["self", "value"] []) (c_is_belowT : C8.Cal P w K mg base 3 "is_below" spIsBelT []) : FnOk P w K mg base (L2.CX P w) 4 f fd ["station", "value"] (spWStX C CE) := by
  refine F.okX sc_want_standing (fun vs H Q E h => ?_) (fun cdv A outer s0 H vs Q E hr h => ?_)
  · obtain ⟨p, s, v, t, d, rfl, _⟩ := h
    rfl
  obtain ⟨p, s, v, t, d, rfl, st, l1, hv, q, e⟩ := h
  refine ⟨_, (pss_one (ps_if (pt_not (pt_val (C8.pe_c c_is_belowT hr (by decide) rfl (pa_cons (pv 1) (pa_cons (pe_callB (kLenO lS hr (by decide)) rfl T.b_len bt_len (pa_cons (pv 0) pa_nil)) pa_nil)))))
        (pss_one (ps_raise rfl (takes_of rfl rfl rfl rfl) (pmk_oex M.ox M.iC M.tI G (hr.mono (by decide)) bI .nil pass0 rfl M.gC (pa_cons (pv 1) pa_nil))))
        pss_nil)), ?_⟩
  obtain ⟨sA, sdx, sp, sps, rfl, hsa, hsp, psg⟩ := id st
  refine ⟨_, rfl, _, rfl, sA, sdx, _, rfl, hsa, .ref sA, t, rfl, st, t.stgs.length, rfl, ?_⟩
  refine ⟨by omega, ?_⟩
  dsimp only [tNil]
  refine ⟨p, v, d, t.stgs.length, rfl, hv, ⟨_, rfl, ?_⟩⟩
  cases eb : belD t.stgs.length d with
  | true => exact iteFd rfl (q eb)
  | false =>
    refine iteTd rfl ⟨_, rfl, ?_⟩
    dsimp only [tNil]
    refine ⟨(by decide : 1 ≤ 1000), fun a ha => ⟨a, CE, v, rfl, M.ox, M.no, upd_same, fun dx hdx hne => ⟨rfl, dx, [("value", v)], upd_same, ?_, ?_, ?_⟩⟩⟩
    · rw [upd_ne hne, upd_same]
    · rw [upd_ne hne] at hdx
      exact hdx
    · rw [upd_ne hne] at hdx
      refine e eb _ _ (fun b o hb => ?_) upd_same
      have n1 : b ≠ dx := ne_of_none hb hdx
      have n2 : b ≠ a := ne_of_none hb ha
      rw [upd_ne n1, del_ne n2, upd_ne n2, upd_ne n1, upd_ne n2]
      exact hb
end
end FY


set_option Elab.async false
set_option linter.all false
set_option maxRecDepth 100000
set_option maxHeartbeats 4000000
namespace FYR
open PySem PySem.Spec PyProof.Rows L2
/-! ### C.f(self, ..): a def called by its class -/
section
variable {X : Cx} {x : Str} {CL fI : Addr} {mc : Value} {k j : Nat} {fd : FuncData} {ps : List Str} {sp : Sp} {e : Expr} {es : List Expr} {ta : TA} {p1 p2 pos : Pos}
theorem pe_cinit {pl : Sem Bool} (hg : Gl X x) (hm : X.mg x = some (.ref CL)) (r : ClX.CRead X.K CL mc) (vV : PySem.W.findCls X.K (.ref CL) mc "__init__" = some (.val (.ref fI))) (kp : PySem.W.keepIn X.K (.ref fI) = true)
    (F : FnOk X.prog X.w X.K X.mg X.base C8.CX0 k fI fd ps sp) (b : Binds X.K fd ps []) (hr : Room j X.A) (hk : k ≤ j) (ha : PA X (e :: es) ta)
    (hdb : (x == ("__debug__" : Str)) = false := by decide)
    (hc : eval (.Call (.Attribute (.Name x p1) "__init__" p2) (e :: es) [] pos) X.env = (do
      let ov ← eval (.Name x p1) X.env
      standAt p2.atName
      let (f, first) ← holding [ov] (getMethod ov "__init__" pl)
      callWith pos f first (backTo pos (starEach (e :: es) X.env)) (backToKw pos (keywordEach [] X.env))) := by rfl)
    (he : starEach (e :: es) X.env = (false, eval e X.env) :: starEach es X.env := by rfl) (hpl : (backTo pos (starEach es X.env)).any (·.1) = false := by rfl) :
    PE X (.Call (.Attribute (.Name x p1) "__init__" p2) (e :: es) [] pos) (tCall sp [] C8.E0 ta) := by
  refine ⟨fun pins s σ H Q I h => ?_⟩
  refine PySem.W.methodCall_KW (ld_glob I hg hm ?_ hdb) hc
  refine PySem.W.method_cls I.kIn r.ga (PySem.W.cls_value I.kIn r.rd vV rfl ?_)
  show wpAny _ _ (callWith pos (Value.ref fI) [] (backTo pos (starEach (e :: es) X.env)) []) _ _ _
  have J := I.tok (s.toks + 1)
  refine PySem.W.callWith_K (h₀ := X.base) J.ok.mod.kin kp (thn (ha.run pos pins _ σ H _ J h) fun us s1 ⟨vs, H1, I1, r1, q⟩ => ⟨I1.kIn, ?_⟩) he hpl
  exact run_fn F (hr.mono hk) b .nil C8.pass0 I1 r1 q
end
end FYR

set_option Elab.async false
set_option linter.all false
set_option maxRecDepth 100000
set_option maxHeartbeats 8000000
namespace FY
open PySem L2 FYR
/-! ## InvalidStandings: its own __init__ calls FlowError's -/
structure FeC (K : PySem.W.Frag) (mg : Str → Option Value) (CF fI : Addr) (mc : Value) : Prop where
  gF : mg "FlowError" = some (.ref CF)
  rd : ClX.CRead K CF mc
  vV : PySem.W.findCls K (.ref CF) mc "__init__" = some (.val (.ref fI))
  kp : PySem.W.keepIn K (.ref fI) = true
def spISI (K : PySem.W.Frag) : Sp := fun vs H Q _ => ∃ (a C : Addr) (v : V), vs = [.ref a, v] ∧ OexC K C ∧ PySem.W.findIn K (.ref C) "value" = some none ∧ PySem.W.findIn K (.ref C) "position" = some none ∧ H a = some (exo a C none) ∧ ∀ dx, H dx = none → dx ≠ a → Q .non (upd (upd (upd H dx (exd dx [("value", v)])) a (exo a C (some dx))) dx (exd dx [("position", v), ("value", v)]))
section
variable {P : Program} {w : World} {K : PySem.W.Frag} {mg : Str → Option Value} {base : Heap} {aS a1 a2 aL aT : Addr} {f : Addr} {fd : FuncData} {CF fI : Addr} {mc : Value}
abbrev s_InvalidStandings___init__ : Stmt := inClass (top 15) 0
abbrev N_InvalidStandings___init__ : List Str := ["self", "position"]
theorem sc_InvalidStandings___init__ : FnScope N_InvalidStandings___init__ ["self", "position"] (defScope s_InvalidStandings___init__) := ⟨rfl, rfl, rfl, by decide +kernel, rfl, by decide +kernel, by decide +kernel⟩
theorem ok_ISI {fdI : FuncData} (F : Fun K "__init__" "InvalidStandings.__init__" s_InvalidStandings___init__ f fd) (M : FeC K mg CF fI mc) (G : FnOk P w K mg base CX0 1 fI fdI ["self", "value"] (spFEI K)) (bI : Binds K fdI ["self", "value"] []) : FnOk P w K mg base CX0 2 f fd ["self", "position"] (spISI K) := by
  refine F.ok sc_InvalidStandings___init__ (fun vs H Q E h => ?_) (fun cdv A outer s H vs Q E hr h => ?_)
  · obtain ⟨a, C, v, rfl, _⟩ := h
    rfl
  obtain ⟨a, C, v, rfl, T, no, no2, ha, q⟩ := h
  refine ⟨_, (pss_cons (ps_expr (pe_cinit rfl M.gF M.rd M.vV M.kp G bI hr (by decide) (pa_cons (pv 0) (pa_cons (pv 1) pa_nil))))
      (pss_one (ps_ost (pv 0) (pv 1)))), ?_⟩
  refine ⟨_, rfl, _, rfl, ?_⟩
  dsimp only [tNil]
  refine ⟨a, C, v, rfl, T, no, ha, fun dx h1 h2 => ?_⟩
  refine ⟨_, rfl, _, rfl, a, C, rfl, T, no2, .inr ⟨dx, [("value", v)], upd_same, ?_, Nat.le_of_ble_eq_true rfl, q dx h1 h2⟩⟩
  rw [upd_ne h2, upd_same]
end
end FY


set_option Elab.async false
set_option linter.all false
set_option maxRecDepth 100000
set_option maxHeartbeats 8000000
namespace FY
open PySem L2 FYR
/-! ## what a station reads at a standing; a standing that is none is refused -/
/-- a def that may raise, by its name -/
structure CalX (P : Program) (w : World) (K : PySem.W.Frag) (mg : Str → Option Value) (base : Heap) (k : Nat) (x : Str) (sp : Sp) : Prop where
  ex : ∃ (f : Addr) (fd : FuncData) (ps : List Str), FnOk P w K mg base (L2.CX P w) k f fd ps sp ∧ mg x = some (.ref f) ∧ PySem.W.keepIn K (.ref f) = true ∧ Binds K fd ps []
section
variable {X : Cx} {k j : Nat} {x : Str} {sp : Sp} {p pos : Pos} {t : L2.TA} {e : Expr} {es : List Expr} {E : XK}
theorem pe_cX (c : CalX X.prog X.w X.K X.mg X.base k x sp) (hr : Room j X.A) (hk : k ≤ j) (hg : Gl X x) (hx : Passes (L2.CX X.prog X.w) X E) (ha : PA X (e :: es) t)
    (hdb : (x == ("__debug__" : Str)) = false := by decide) (he : starEach (e :: es) X.env = (false, eval e X.env) :: starEach es X.env := by rfl) (hpl : (backTo pos (starEach es X.env)).any (·.1) = false := by rfl) :
    PE X (.Call (.Name x p) (e :: es) [] pos) (tCall sp [] E t) := by
  obtain ⟨f, fd, ps, F, hm, kp, b⟩ := c.ex
  exact pe_call F (hr.mono hk) hg hm kp b .nil hx ha hdb he hpl
end
theorem paired_atS {α β : Type} {R : α → β → Prop} {a : List α} {b : List β} (h : Paired R a b) {i : Nat} {y : β} (hy : b[i]? = some y) : ∃ x, a[i]? = some x ∧ R x y := by
  induction h generalizing i with
  | nil => simp at hy
  | cons r _ ih =>
    cases i with
    | zero => exact ⟨_, rfl, by simp at hy; exact hy ▸ r⟩
    | succ i =>
      obtain ⟨x, e1, e2⟩ := ih (i := i) (by simpa using hy)
      exact ⟨x, by simpa using e1, e2⟩
def spReadsX (C CE : Addr) : Sp := fun vs H Q E => ∃ (p : Addr) (s v : V) (t : Stn) (d : PyData), vs = [s, v] ∧ StnA C H s t ∧ t.stgs.length ≤ 1000 ∧ Tv p H v d ∧ (∀ (i : Nat) (S : Sg), d = .int (i : Nat) → t.stgs[i]? = some S → Q (.str S.reads.s) H) ∧ (belD t.stgs.length d = false → ivE CE E H v)
section
variable {P : Program} {w : World} {K : PySem.W.Frag} {mg : Str → Option Value} {base : Heap} {aS a1 a2 aL aT : Addr} {f : Addr} {fd : FuncData} {C CE fI : Addr}
abbrev s_Station_reads : Stmt := inClass (top 25) 4
abbrev N_Station_reads : List Str := ["self", "standing"]
theorem sc_Station_reads : FnScope N_Station_reads ["self", "standing"] (defScope s_Station_reads) := ⟨rfl, rfl, rfl, by decide +kernel, rfl, by decide +kernel, by decide +kernel⟩
theorem ok_Station_readsX (F : Fun K "reads" "Station.reads" s_Station_reads f fd) (T : Txt K mg aS a1 a2) (cl : Cls K C) (nS : NoAttr K C "own_standings") (x_want_standing : CalX P w K mg base 4 "want_standing" (spWStX C CE)) : FnOk P w K mg base (L2.CX P w) 5 f fd ["self", "standing"] (spReadsX C CE) := by
  refine F.okX sc_Station_reads (fun vs H Q E h => ?_) (fun cdv A outer s0 H vs Q E hr h => ?_)
  · obtain ⟨p, s, v, t, d, rfl, _⟩ := h
    rfl
  obtain ⟨p, s, v, t, d, rfl, st, l1, hv, q, e⟩ := h
  refine ⟨_, (pss_cons (ps_expr (pe_cX x_want_standing hr (by decide) rfl (passes_call (takes_of rfl rfl rfl rfl) (fun _ _ _ _ h => h)) (pa_cons (pv 0) (pa_cons (pv 1) pa_nil))))
        (pss_one (ps_ret (pe_ix (kIxT K rfl) (pe_ix (kIxT K rfl) (kFld K rfl (pv 0)) (pv 1) (fun _ _ => rfl)) pe_int (fun _ _ => rfl))))), ?_⟩
  refine ⟨_, rfl, _, rfl, ?_⟩
  dsimp only [tNil]
  refine ⟨p, s, v, t, d, rfl, st, l1, hv, fun eb => ?_, fun eb => e eb⟩
  obtain ⟨sA, sdx, sp, sps, rfl, hsa, hsp, psg⟩ := id st
  cases hv with
  | int i =>
    have eb' : (decide (0 ≤ i) && decide (i < (t.stgs.length : Int))) = true := eb
    rw [Bool.and_eq_true, decide_eq_true_eq, decide_eq_true_eq] at eb'
    obtain ⟨k, rfl⟩ := Int.eq_ofNat_of_zero_le eb'.1
    have kl : k < t.stgs.length := by omega
    have hS : t.stgs[k]? = some (t.stgs[k]'kl) := List.getElem?_eq_getElem kl
    obtain ⟨u, hu, a, qq, ws, rfl, h1, _, _⟩ := paired_atS psg hS
    refine ⟨_, rfl, sA, C, sdx, _, _, rfl, hsa, cl, nS, rfl, _, rfl, _, _, _, _, rfl, rfl, SqT.of hsp, atI_nat (j := k) hu, _, _, _, _, rfl, rfl, SqT.of h1, atI_nat (j := 0) rfl, q k _ rfl hS⟩
  | _ => exact absurd eb Bool.false_ne_true
end
end FY


set_option Elab.async false
set_option linter.all false
namespace FY
def valB (c : List Bool) : Nat := c.foldl (fun n b => 2 * n + b.toNat) 0
end FY

set_option Elab.async false
set_option linter.all false
set_option maxRecDepth 100000
set_option maxHeartbeats 4000000
namespace FYR
open PySem PySem.Spec PyProof.Rows L2 L2.Hx PySem.NumText PySem.Calls
/-! int(signs, 2), signs one or two of 0 and 1 -/
def Bin (x : PySem.Str) (n : Nat) : Prop := ((numSeenOf x).length ≤ 640) ∧ ((int_private% "readNumeral") 0 2 (numSeenOf x) = (int_private% "Numeral.value") (n : Int)) ∧ ((numSeenOf x).length == (numTextOf x).length) = true
theorem gives_bin {x : PySem.Str} {u t : Tok} {n : Nat} (h : Bin x n) :
    Gives (Builtin.«int.__new__» ⟨[.type "int", .str x u, .int 2 t], []⟩) (.int (n : Int)) :=
  .of_wp fun M A E s Q hQ => by
    obtain ⟨hp, g, d, tk, os⟩ := s
    have f1 := F.conv_sub_int
    have f2 := F.madeHere_int
    have f6 : typeOf (.str x u) = pure (.type "str") := rfl
    have hk := Hid.mk h
    clear h
    repeat (any_goals (first
      | assumption
      | ((with_reducible show wpAny _ _ ((int_private% "intFromText") _ _ _) _ _ _); refine wp_textB hk.out.1 hk.out.2.1 hk.out.2.2 ?_)
      | wp_step))
    all_goals first | exact ⟨_, rfl, hQ⟩ | skip
theorem call_bin {prog : Program} {w : World} {A : Around} {E : Value → Shared → Prop} {s : Shared} {Q : Value → Shared → Prop} {x : PySem.Str} {u t : Tok} {n : Nat} (h : Bin x n)
    (hQ : Q (.int (n : Int) s.toks) { s with toks := s.toks + 1 }) : wpAny (model prog w) A (call (.type "int") [.str x u, .int 2 t]) Q E s :=
  callType_new F.called_int F.newNe_int (typeCall_int_2 _ _) (newCall_int_2 _ _) (fun obj => F.initArgs_range_2 obj _ _) F.entry_int_new (gives_bin h).meets (show (Made.int (n : Int)).post _ s from ⟨rfl, hQ⟩)
theorem bin_tx {c : List Bool} (h : c.length = 1 ∨ c.length = 2) : Bin (FY.tx c) (FY.valB c) := by
  rcases h with h | h
  · match c, h with
    | [a], _ => cases a <;> exact ⟨by decide +kernel, by kernel_rfl, by decide +kernel⟩
  · match c, h with
    | [a, b], _ => cases a <;> cases b <;> exact ⟨by decide +kernel, by kernel_rfl, by decide +kernel⟩
def rInt2 : List V → Hp → VK → Prop := fun xs H Q => ∃ c : List Bool, xs = [.str (FY.tx c), .int 2] ∧ (c.length = 1 ∨ c.length = 2) ∧ Q (.int (FY.valB c : Nat)) H
theorem call_int2 {X : Cx} : CallR X (.type "int") rInt2 := by
  intro pins s σ H xs us Q I r h
  obtain ⟨c, rfl, hl, q⟩ := h
  obtain ⟨u, w', rfl, r1, r2⟩ := vals2 r
  obtain ⟨t1, rfl⟩ := r1
  obtain ⟨t2, rfl⟩ := r2
  exact call_bin (bin_tx hl) ⟨.int (FY.valB c : Nat), H, I.tok _, ⟨_, rfl⟩, q⟩
end FYR

set_option Elab.async false
set_option linter.all false
set_option maxRecDepth 100000
set_option maxHeartbeats 4000000
/-! a list or a tuple, looked at alike -/
namespace FYR
open PySem PySem.Spec PyProof.Rows L2
def Qs (H : Hp) (a : Addr) (xs : List V) : Prop := H a = some (.lst xs) ∨ H a = some (.tup xs)
def rIxQ (K : PySem.W.Frag) : V → V → Hp → VK → Prop := fun x y H Q => rIxL K x y H Q ∨ rIxT K x y H Q
def iSq (K : PySem.W.Frag) (tl : TE) : TI := fun σ H R => iList K tl σ H R ∨ iTup K tl σ H R
section
variable {X : Cx} (K : PySem.W.Frag) (hK : X.K = K)
include hK
theorem kIxQ : IxR X (rIxQ K) := by
  subst hK
  intro value slice pins s σ H x y v u Q I rx ry h hs
  rcases h with h | h
  · exact ix_list value slice pins s σ H x y v u Q I rx ry h hs
  · exact ix_tup value slice pins s σ H x y v u Q I rx ry h hs
theorem kSq {tg l : Expr} {tl : TE} (hl : PE X l tl) : PI X tg l (iSq K tl) := ⟨fun pins s σ H R I h => h.elim ((kList K hK hl).run pins s σ H R I) ((kTup K hK hl).run pins s σ H R I)⟩
end
section
variable {K : PySem.W.Frag} {H : Hp} {a : Addr} {xs : List V}
theorem ixq_of {i : Nat} {v : V} {Q : VK} (h : Qs H a xs) (e : xs[i]? = some v) (q : Q v H) : rIxQ K (.ref a) (.int (i : Nat)) H Q := by
  rcases h with h | h
  · exact .inl ⟨_, _, _, _, rfl, rfl, SqL.of h, L2.atI_nat (j := i) e, q⟩
  · exact .inr ⟨_, _, _, _, rfl, rfl, SqT.of h, L2.atI_nat (j := i) e, q⟩
theorem isq_of {tl : TE} {σ : L2.St} {H0 : Hp} {R : It → Hp → Prop} (h : Qs H a xs) (ev : ∀ Q : VK, Q (.ref a) H → tl σ H0 Q) (r : ∀ (J : It) (G : Hp → Prop), Walk J xs.length G (YAt xs) → (∀ H', (∀ o, H a = some o → H' a = some o) → G H') → R J H) : iSq K tl σ H0 R := by
  rcases h with h | h
  · exact .inl (ev _ ⟨a, rfl, ⟨_, SqL.of h⟩, r _ _ walk_list fun H' k => SqL.of (k _ h)⟩)
  · exact .inr (ev _ ⟨a, rfl, ⟨_, SqT.of h⟩, r _ _ walk_tup fun H' k => SqT.of (k _ h)⟩)
theorem qs_len {Q : VK} (h : Qs H a xs) (q : Q (.int xs.length) H) : rLenK K [.ref a] H Q := ⟨a, xs, rfl, h.elim (fun h => .inl (SqL.of h)) (fun h => .inr (SqT.of h)), q⟩
theorem Qs.on {H' : Hp} (h : Qs H a xs) (k : ∀ o, H a = some o → H' a = some o) : Qs H' a xs := h.elim (fun h => .inl (k _ h)) fun h => .inr (k _ h)
end
end FYR

set_option Elab.async false
set_option linter.all false
set_option maxRecDepth 100000
set_option maxHeartbeats 8000000
namespace FY
open PySem L2 FYR
/-! ## stations of any values (stage 1) -/
/-- texts that are no words of LINES, of those that are asked -/
structure LinO (K : PySem.W.Frag) (aL : Addr) : Prop where
  n3 : PySem.W.nsIn K aL "3" = some none
  n21 : PySem.W.nsIn K aL "21" = some none
/-- which texts are asked -/
def rdKn : PyData → Prop
  | .str s => s = "1" ∨ s = "2" ∨ s = "12" ∨ s = "3" ∨ s = "21"
  | _ => True
def readD (ins : Nat) : PyData → Bool
  | .str s => decide (s = "1") || ((decide (s = "2") || decide (s = "12")) && decide (ins = 2))
  | _ => false
def manyR : PyData → Nat
  | .str s => if s = "12" then 4 else 2
  | _ => 2
def elsO (d : PyData) : List PyData := match d with
  | .list ds => ds
  | .tuple ds => ds
  | _ => []
def tckB : PyData → Bool
  | .int i => decide (1 ≤ i) && decide (i ≤ 9)
  | _ => false
def gvsB (outs : Nat) : PyData → Bool
  | .tuple gs => decide (gs.length = outs) && gs.all (txtM 2)
  | _ => false
def rowB (outs many : Nat) : PyData → Bool
  | .tuple [a, b, c] => gvsB outs a && belD many b && tckB c
  | _ => false
def stnB (ins outs many : Nat) : PyData → Bool
  | .tuple [a, b] => readD ins a && isSeqD b && decide ((elsO b).length = manyR a) && (elsO b).all (rowB outs many)
  | _ => false
theorem rd_eq (ins : Nat) (s : Str) : readD ins (.str s) = (decide (s = "1") || ((decide (s = "2") || decide (s = "12")) && decide (ins = 2))) := rfl
theorem rd1 (ins : Nat) : readD ins (.str "1") = true := by
  rw [rd_eq, show decide (("1" : Str) = "1") = true by decide +kernel]; rfl
theorem rd2 (ins : Nat) : readD ins (.str "2") = decide (ins = 2) := by
  rw [rd_eq, show decide (("2" : Str) = "1") = false by decide +kernel, show decide (("2" : Str) = "2") = true by decide +kernel, Bool.true_or, Bool.true_and, Bool.false_or]
theorem rd12 (ins : Nat) : readD ins (.str "12") = decide (ins = 2) := by
  rw [rd_eq, show decide (("12" : Str) = "1") = false by decide +kernel, show decide (("12" : Str) = "12") = true by decide +kernel, Bool.or_true, Bool.true_and, Bool.false_or]
theorem rd3 (ins : Nat) : readD ins (.str "3") = false := by
  rw [rd_eq, show decide (("3" : Str) = "1") = false by decide +kernel, show decide (("3" : Str) = "2") = false by decide +kernel, show decide (("3" : Str) = "12") = false by decide +kernel]; rfl
theorem rd21 (ins : Nat) : readD ins (.str "21") = false := by
  rw [rd_eq, show decide (("21" : Str) = "1") = false by decide +kernel, show decide (("21" : Str) = "2") = false by decide +kernel, show decide (("21" : Str) = "12") = false by decide +kernel]; rfl
def spAreReadT : Sp := fun vs H Q _ => ∃ (p : Addr) (v : V) (d : PyData) (ins : Nat), vs = [v, .int (ins : Nat)] ∧ Tv p H v d ∧ rdKn d ∧ Q (.bl (readD ins d)) H
section
variable {P : Program} {w : World} {K : PySem.W.Frag} {mg : Str → Option Value} {base : Heap} {aS a1 a2 aL aT : Addr} {f : Addr} {fd : FuncData}
theorem ok_are_readT (F : Fun K "are_read" "are_read" s_are_read f fd) (T : Txt K mg aS a1 a2) (L : Lin K w mg aL) (LO : LinO K aL) : FnOk P w K mg base CX0 1 f fd ["value", "ins"] spAreReadT := by
  refine F.ok sc_are_read (fun vs H Q E h => ?_) (fun cdv A outer s H vs Q E hr h => ?_)
  · obtain ⟨p, v, d, i, rfl, _⟩ := h
    rfl
  obtain ⟨p, v, d, ins, rfl, hv, kn, q⟩ := h
  refine ⟨_, (pss_one (ps_ret (pe_and (pe_callB (kIsi K rfl) rfl T.b_isinstance bt_isinstance (pa_cons (pv 0) (pa_cons (pTy rfl T.b_str bt_str) pa_nil))) (pe_and (pe_cmpR (kInL K rfl rfl L) (pv 0) (C8.pe_gc rfl L.g_LINES) rfl) (pe_one (pe_or (pe_cmpR op_eq (pv 0) pe_str (nomark _)) (pe_one (pe_cmpR op_eq (pv 1) pe_int (nomark _))))))))), ?_⟩
  refine ⟨_, rfl, _, _, _, _, _, rfl, .ty _, hv.ty, kit_str d, _, rfl, ?_⟩
  cases hv with
  | str z =>
    refine iteT ?_
    have e2 : decide (V.int (ins : Int) = V.int 2) = decide (ins = 2) := decide_eq_decide.mpr ⟨fun e => by have := V.int.inj e; omega, fun e => by rw [e]; rfl⟩
    rcases kn with rfl | rfl | rfl | rfl | rfl
    · obtain ⟨u, hu⟩ := L.at_ .one
      refine ⟨_, rfl, _, _, rfl, rfl, hu, _, rfl, iteT ⟨_, rfl, rfl, _, rfl, ?_⟩⟩
      refine iteTd (by decide +kernel) ?_
      rw [rd1] at q
      exact q
    · obtain ⟨u, hu⟩ := L.at_ .two
      refine ⟨_, rfl, _, _, rfl, rfl, hu, _, rfl, iteT ⟨_, rfl, rfl, _, rfl, ?_⟩⟩
      refine iteFd (by decide +kernel) ⟨_, rfl, rfl, ?_⟩
      rw [e2]
      rw [rd2] at q
      exact q
    · obtain ⟨u, hu⟩ := L.at_ .both
      refine ⟨_, rfl, _, _, rfl, rfl, hu, _, rfl, iteT ⟨_, rfl, rfl, _, rfl, ?_⟩⟩
      refine iteFd (by decide +kernel) ⟨_, rfl, rfl, ?_⟩
      rw [e2]
      rw [rd12] at q
      exact q
    · rw [rd3] at q
      exact ⟨_, rfl, _, _, rfl, rfl, LO.n3, _, rfl, iteF q⟩
    · rw [rd21] at q
      exact ⟨_, rfl, _, _, rfl, rfl, LO.n21, _, rfl, iteF q⟩
  | _ => exact iteF q
end
end FY


set_option Elab.async false
set_option linter.all false
set_option maxRecDepth 100000
set_option maxHeartbeats 8000000
namespace FY
open PySem L2 FYR
/-! ## a row, a standing: of any value -/
theorem tNext_i {D : Ends} {σ : St} {H : Hp} (h : D.nx σ H) : tNext D σ H := h
/-- texts in it are not too long -/
def shAll : PyData → Prop
  | .tuple gs => ∀ g ∈ gs, shortD g
  | _ => True
def shRow : PyData → Prop
  | .tuple [a, _, _] => shAll a
  | _ => True
def shStn : PyData → Prop
  | .tuple [a, b] => rdKn a ∧ ∀ r ∈ elsO b, shRow r
  | _ => True
def spIsRowT : Sp := fun vs H Q _ => ∃ (p : Addr) (v : V) (d : PyData) (outs many : Nat), vs = [v, .int (outs : Nat), .int (many : Nat)] ∧ Tv p H v d ∧ shRow d ∧ outs ≤ 2 ∧ ∀ H', Same H H' → Q (.bl (rowB outs many d)) H'
section
variable {P : Program} {w : World} {K : PySem.W.Frag} {mg : Str → Option Value} {base : Heap} {aS a1 a2 aL aT : Addr} {f : Addr} {fd : FuncData}
theorem ok_is_rowT (F : Fun K "is_row" "is_row" s_is_row f fd) (T : Txt K mg aS a1 a2) (c_is_integerT : C8.Cal P w K mg base 1 "is_integer" spIsIntT []) (c_is_text_ofT : C8.Cal P w K mg base 2 "is_text_of" spIsTextOfT []) (c_is_belowT : C8.Cal P w K mg base 3 "is_below" spIsBelT []) : FnOk P w K mg base CX0 4 f fd ["value", "outs", "many"] spIsRowT := by
  refine F.ok sc_is_row (fun vs H Q E h => ?_) (fun cdv A outer s H vs Q E hr h => ?_)
  · obtain ⟨p, v, d, o, m, rfl, _⟩ := h
    rfl
  obtain ⟨p, v, d, outs, many, rfl, hv, sh, o2, q⟩ := h
  refine ⟨_, (pss_cons (ps_if (PW.pt (pw_or (pt_not (pt_val (pe_callB (kIsi K rfl) rfl T.b_isinstance bt_isinstance (pa_cons (pv 0) (pa_cons (pTy rfl T.b_tuple bt_tuple) pa_nil))))) (pw_or (pt_cmpR op_ne (pe_callB (kLen K rfl) rfl T.b_len bt_len (pa_cons (pv 0) pa_nil)) pe_int (nomark _)) (pw_or (pt_not (pt_val (pe_callB (kIsi K rfl) rfl T.b_isinstance bt_isinstance (pa_cons (pe_ix (kIxT K rfl) (pv 0) pe_int (fun _ _ => rfl)) (pa_cons (pTy rfl T.b_tuple bt_tuple) pa_nil))))) (pw_or1 (pt_cmpR op_ne (pe_callB (kLen K rfl) rfl T.b_len bt_len (pa_cons (pe_ix (kIxT K rfl) (pv 0) pe_int (fun _ _ => rfl)) pa_nil)) (pv 1) (nomark _)))))))
        (pss_one (ps_ret pe_bl))
        pss_nil)
        (pss_cons (ps_if (PW.pt (pw_or (pt_not (pt_val (pe_callB (kAll K rfl rfl) rfl T.b_all bt_all (pa_cons (pe_lc (own := [("text", 3)]) rfl sc_is_row.nd (kTup K rfl (pe_ix (kIxT K rfl) (pv 0) pe_int (fun _ _ => rfl))) (blkOk_by (N := N_is_row) (sc := defScope s_is_row) (by decide +kernel)) (fun _ _ _ _ _ => (pg_name (i := 3) sc_is_row.nd rfl (Or.inl rfl))) (fun _ _ _ _ _ => pts_nil) (fun _ _ _ _ _ => (C8.pe_c c_is_text_ofT hr (by decide) rfl (pa_cons (pv 3) (pa_cons (C8.pe_gc rfl T.g_MOST_GIVEN) pa_nil))))) pa_nil)))) (pw_or1 (pt_not (pt_val (C8.pe_c c_is_belowT hr (by decide) rfl (pa_cons (pe_ix (kIxT K rfl) (pv 0) pe_int (fun _ _ => rfl)) (pa_cons (pv 2) pa_nil))))))))
        (pss_one (ps_ret pe_bl))
        pss_nil)
        (pss_one (ps_ret (pe_and (C8.pe_c c_is_integerT hr (by decide) rfl (pa_cons (pe_ix (kIxT K rfl) (pv 0) pe_int (fun _ _ => rfl)) pa_nil)) (pe_one (pe_chain op_le op_le pe_int (pe_ix (kIxT K rfl) (pv 0) pe_int (fun _ _ => rfl)) (C8.pe_gc rfl T.g_MOST_TICKS)))))))), ?_⟩
  have no : ∀ {G : Hp}, Same H G → rowB outs many d = false → Q (.bl false) G := fun s e => by
    have := q _ s
    rwa [e] at this
  refine ⟨_, rfl, _, _, _, _, _, rfl, .ty _, hv.ty, kit_tup d, _, rfl, ?_⟩
  cases hv with
  | @tup b ys es ne h0 hvs =>
    refine iteFd rfl ?_
    have les := hvs.len
    refine ⟨_, rfl, _, _, rfl, .inr (SqT.of h0), rfl, _, rfl, ?_⟩
    by_cases l3 : es.length = 3
    case neg =>
      have z : rowB outs many (.tuple es) = false := by
        match es, l3 with
        | [], _ => rfl
        | [_], _ => rfl
        | [_, _], _ => rfl
        | _ :: _ :: _ :: _ :: _, _ => rfl
      refine iteTd (by rw [les]; exact (congrArg not (decide_eq_false fun e => l3 (by have := V.int.inj e; omega)))) (no (fun _ _ e => e) z)
    refine iteFd (by rw [les, l3]; rfl) ?_
    obtain ⟨da, db, dc, rfl⟩ : ∃ d0 d1 d2, es = [d0, d1, d2] := by
      match es, l3 with
      | [d0, d1, d2], _ => exact ⟨_, _, _, rfl⟩
    cases hvs with
    | @cons va _ _ _ h1 hvs =>
    cases hvs with
    | @cons vb _ _ _ h2 hvs =>
    cases hvs with
    | @cons vc _ _ _ h3 hvs =>
    cases hvs
    have er : rowB outs many (.tuple [da, db, dc]) = (gvsB outs da && belD many db && tckB dc) := rfl
    refine ⟨_, rfl, _, _, _, _, rfl, rfl, SqT.of h0, atI_nat (j := 0) rfl, _, _, _, _, _, rfl, .ty _, h1.ty, kit_tup da, _, rfl, ?_⟩
    cases h1 with
    | @tup ba xs gs nea ha hgs =>
      refine iteFd rfl ?_
      have lgs := hgs.len
      refine ⟨_, rfl, _, _, _, _, rfl, rfl, SqT.of h0, atI_nat (j := 0) rfl, _, _, rfl, .inr (SqT.of ha), _, rfl, rfl, _, rfl, ?_⟩
      by_cases lo : gs.length = outs
      case neg =>
        have z : rowB outs many (.tuple [.tuple gs, db, dc]) = false := by
          show (decide (gs.length = outs) && _ && _ && _) = false
          rw [decide_eq_false lo]; rfl
        refine iteTd (by rw [lgs]; exact (congrArg not (decide_eq_false fun e => lo (by have := V.int.inj e; omega)))) (no (fun _ _ e => e) z)
      refine iteFd (by rw [lgs, lo, decide_eq_true rfl]; rfl) (tNext_i ?_)
      dsimp only
      have sh : ∀ g ∈ gs, shortD g := sh
      refine ⟨_, rfl, _, _, _, _, rfl, rfl, SqT.of h0, atI_nat (j := 0) rfl, ba, rfl, ⟨_, SqT.of ha⟩, fun D hD => lc_it walk_tup (fun i H' => Same H H' ∧ H' D = some (.lst ((gs.take i).map fun d => V.bl (txtM 2 d)))) ⟨same_new hD _, upd_same⟩ (fun i H' _ z => SqT.of (z.1 _ _ ha)) ?_ ?_⟩
      · rintro i x H1 H2 hi ⟨sm, hd⟩ ⟨rfl, hx⟩
        obtain ⟨d', hd', hv'⟩ := hgs.at hx
        refine ⟨rfl, tyI ⟨_, rfl, ?_⟩⟩
        dsimp only [tNil]
        refine ⟨p, x, d', 2, rfl, hv'.same sm, sh d' (List.mem_of_getElem? hd'), fun H3 s3 => ⟨_, s3 _ _ hd, ?_, same_at (sm.trans' s3) hD, ?_⟩⟩
        · rw [List.length_map, List.length_take]
          exact Nat.lt_of_le_of_lt (Nat.min_le_left _ _) (Nat.lt_of_lt_of_le (show i < 100000 by omega) (by decide))
        · rw [upd_same, List.take_add_one, hd', List.map_append]; rfl
      rintro H1 ⟨s1, hd⟩
      rw [List.take_of_length_le (by omega)] at hd
      refine ⟨_, gs.map (txtM 2), rfl, SqL.of (by rw [hd, List.map_map]; rfl), _, rfl, ?_⟩
      rw [List.all_map]
      have ec : ((fun b : Bool => b) ∘ txtM 2) = txtM 2 := rfl
      cases eg : gs.all (txtM 2) with
      | false =>
        refine iteTd (by first | (rw [ec, eg]; rfl) | (show (!(gs.all _)) = true; simpa using eg)) (no s1 ?_)
        show (decide (gs.length = outs) && gs.all (txtM 2) && _ && _) = false
        rw [eg, Bool.and_false]; rfl
      | true =>
      refine iteFd (by first | (rw [ec, eg]; rfl) | (show (!(gs.all _)) = false; simpa using eg)) ?_
      have eg' : gvsB outs (.tuple gs) = true := by
        show (decide (gs.length = outs) && gs.all (txtM 2)) = true
        rw [eg, decide_eq_true lo]; rfl
      refine ⟨_, rfl, _, _, _, _, rfl, rfl, SqT.of (s1 _ _ h0), atI_nat (j := 1) rfl, _, rfl, ?_⟩
      dsimp only [tNil]
      refine ⟨p, vb, db, many, rfl, h2.same s1, ⟨_, rfl, ?_⟩⟩
      cases eb : belD many db with
      | false =>
        refine iteTd rfl (no s1 ?_)
        show (gvsB outs (.tuple gs) && belD many db && tckB dc) = false
        rw [eb, Bool.and_false]; rfl
      | true =>
      refine iteFd rfl (tNext_i ?_)
      dsimp only
      have er2 : rowB outs many (.tuple [.tuple gs, db, dc]) = tckB dc := by
        show (gvsB outs (.tuple gs) && belD many db && tckB dc) = _
        rw [eg', eb]; rfl
      rw [er2] at q
      refine ⟨_, rfl, _, _, _, _, rfl, rfl, SqT.of (s1 _ _ h0), atI_nat (j := 2) rfl, ?_⟩
      dsimp only [tNil]
      replace h3 := h3.same s1
      refine ⟨p, vc, dc, rfl, h3, _, rfl, ?_⟩
      cases h3 with
      | int i =>
        refine iteTd rfl ⟨_, rfl, _, _, _, _, rfl, rfl, SqT.of (s1 _ _ h0), atI_nat (j := 2) rfl, _, _, rfl, rfl, _, rfl, ?_⟩
        have et : tckB (.int i) = (decide (1 ≤ i) && decide (i ≤ 9)) := rfl
        rw [et] at q
        by_cases z : 1 ≤ i
        · rw [decide_eq_true z, Bool.true_and] at q
          exact iteTd (decide_eq_true z) ⟨_, _, rfl, rfl, q _ s1⟩
        · rw [decide_eq_false z, Bool.false_and] at q
          exact iteFd (decide_eq_false z) (q _ s1)
      | _ => exact iteFd rfl (q _ s1)
    | _ => exact iteTd rfl (no (fun _ _ e => e) rfl)
  | _ => exact iteTd rfl (no (fun _ _ e => e) rfl)
end
end FY


set_option Elab.async false
set_option linter.all false
set_option maxRecDepth 100000
set_option maxHeartbeats 8000000
namespace FY
open PySem L2 FYR
/-! ## a station's row; signs that are none are refused -/
def spPlaceS : Sp := fun vs H Q _ => ∃ c : List Bool, vs = [.str (tx c)] ∧ (c.length = 1 ∨ c.length = 2) ∧ Q (.int (valB c : Nat)) H
/-- signs that are read -/
def sgnB (n : Nat) : PyData → Bool
  | .str s => textB s && decide (s.cps.size = n)
  | _ => false
def spRowX (C CE CT : Addr) : Sp := fun vs H Q E => ∃ (p : Addr) (s v g : V) (t : Stn) (d dg : PyData), vs = [s, v, g] ∧ StnA C H s t ∧ t.ok ∧ Tv p H v d ∧ Tv p H g dg ∧ shortD dg ∧
  (∀ (i : Nat) (S : Sg) (c : List Bool), d = .int (i : Nat) → t.stgs[i]? = some S → dg = .str (tx c) → c.length = S.reads.s.length → ∀ H' r u, Same H H' → S.rows[valB c]? = some r → RwA H' u r → Q u H') ∧
  (∀ (i : Nat) (S : Sg), d = .int (i : Nat) → t.stgs[i]? = some S → sgnB S.reads.s.length dg = false → ivE CT E H g) ∧ (belD t.stgs.length d = false → ivE CE E H v)
section
variable {P : Program} {w : World} {K : PySem.W.Frag} {mg : Str → Option Value} {base : Heap} {aS a1 a2 aL aT : Addr} {f : Addr} {fd : FuncData} {C CE CT fI : Addr}
abbrev s_place_of : Stmt := top 24
abbrev N_place_of : List Str := ["signs"]
theorem sc_place_of : FnScope N_place_of ["signs"] (defScope s_place_of) := ⟨rfl, rfl, rfl, by decide +kernel, rfl, by decide +kernel, by decide +kernel⟩
theorem ok_place_ofS (F : Fun K "place_of" "place_of" s_place_of f fd) (T : Txt K mg aS a1 a2) : FnOk P w K mg base CX0 1 f fd ["signs"] spPlaceS := by
  refine F.ok sc_place_of (fun vs H Q E h => ?_) (fun cdv A0 outer s0 H vs Q E hr h => ?_)
  · obtain ⟨c, rfl, _⟩ := h
    rfl
  obtain ⟨c, rfl, hl, q⟩ := h
  refine ⟨_, (pss_one (ps_ret (pe_callTy call_int2 rfl T.b_int bt_int (pa_cons (pv 0) (pa_cons pe_int pa_nil))))), ?_⟩
  exact ⟨_, rfl, c, rfl, hl, q⟩
abbrev s_Station_row : Stmt := inClass (top 25) 5
abbrev N_Station_row : List Str := ["self", "standing", "signs", "reads", "rows"]
theorem sc_Station_row : FnScope N_Station_row ["self", "standing", "signs"] (defScope s_Station_row) := ⟨rfl, rfl, rfl, by decide +kernel, rfl, by decide +kernel, by decide +kernel⟩
theorem ok_Station_rowX {fdI : FuncData} (F : Fun K "row" "Station.row" s_Station_row f fd) (T : Txt K mg aS a1 a2) (cl : Cls K C) (nS : NoAttr K C "own_standings") (x_want_standing : CalX P w K mg base 4 "want_standing" (spWStX C CE)) (M : IvC K mg "InvalidText" CT fI) (G : FnOk P w K mg base CX0 1 fI fdI ["self", "value"] (spFEI K)) (bI : Binds K fdI ["self", "value"] []) (c_is_text_ofT : C8.Cal P w K mg base 2 "is_text_of" spIsTextOfT []) (c_place_of : C8.Cal P w K mg base 1 "place_of" spPlaceS []) : FnOk P w K mg base (L2.CX P w) 5 f fd ["self", "standing", "signs"] (spRowX C CE CT) := by
  refine F.okX sc_Station_row (fun vs H Q E h => ?_) (fun cdv A outer s0 H vs Q E hr h => ?_)
  · obtain ⟨p, s, v, g, t, d, dg, rfl, _⟩ := h
    rfl
  obtain ⟨p, s, v, g, t, d, dg, rfl, st, tok, hv, hg, shg, q, eg, e⟩ := h
  have m2 := tok.m2
  refine ⟨_, (pss_cons (ps_expr (pe_cX x_want_standing hr (by decide) rfl (passes_call (takes_of rfl rfl rfl rfl) (fun _ _ _ _ h => h)) (pa_cons (pv 0) (pa_cons (pv 1) pa_nil))))
        (pss_cons (ps_asg (pe_ix (kIxT K rfl) (kFld K rfl (pv 0)) (pv 1) (fun _ _ => rfl)) (kTupG (n := 2) K rfl rfl (pgs_cons (pg_name (i := 3) sc_Station_row.nd rfl (Or.inl rfl)) (pgs_cons (pg_name (i := 4) sc_Station_row.nd rfl (Or.inl rfl)) pgs_nil))))
        (pss_cons (ps_if (PW.pt (pw_or (pt_not (pt_val (C8.pe_c c_is_text_ofT hr (by decide) rfl (pa_cons (pv 2) (pa_cons (pe_callB call_len_str rfl T.b_len bt_len (pa_cons (pv 3) pa_nil)) pa_nil))))) (pw_or1 (pt_cmpR op_lt (pe_callB call_len_str rfl T.b_len bt_len (pa_cons (pv 2) pa_nil)) (pe_callB call_len_str rfl T.b_len bt_len (pa_cons (pv 3) pa_nil)) (nomark _)))))
        (pss_one (ps_raise rfl (takes_of rfl rfl rfl rfl) (pmk_oex M.ox M.iC M.tI G (hr.mono (by decide)) bI .nil pass0 rfl M.gC (pa_cons (pv 2) pa_nil))))
        pss_nil)
        (pss_one (ps_ret (pe_ix (kIxT K rfl) (pv 4) (C8.pe_c c_place_of hr (by decide) rfl (pa_cons (pv 2) pa_nil)) (fun _ _ => rfl))))))), ?_⟩
  refine ⟨_, rfl, _, rfl, ?_⟩
  dsimp only [tNil]
  refine ⟨p, s, v, t, d, rfl, st, by omega, hv, fun eb => ?_, fun eb => e eb⟩
  obtain ⟨sA, sdx, sp, sps, rfl, hsa, hsp, psg⟩ := id st
  cases hv with
  | int i =>
    have eb' : (decide (0 ≤ i) && decide (i < (t.stgs.length : Int))) = true := eb
    rw [Bool.and_eq_true, decide_eq_true_eq, decide_eq_true_eq] at eb'
    obtain ⟨k, rfl⟩ := Int.eq_ofNat_of_zero_le eb'.1
    have kl : k < t.stgs.length := by omega
    have hS : t.stgs[k]? = some (t.stgs[k]'kl) := List.getElem?_eq_getElem kl
    obtain ⟨u, hu, a, qq, ws, rfl, h1, h2, h3⟩ := paired_atS psg hS
    refine ⟨_, rfl, sA, C, sdx, _, _, rfl, hsa, cl, nS, rfl, _, rfl, _, _, _, _, rfl, rfl, SqT.of hsp, atI_nat (j := k) hu, _, _, rfl, SqT.of h1, rfl, _, _, rfl, _, _, rfl, rfl, ?_⟩
    have lR : (t.stgs[k]'kl).reads.s.length = 1 ∨ (t.stgs[k]'kl).reads.s.length = 2 := by
      cases (t.stgs[k]'kl).reads <;> decide +kernel
    generalize hSk : t.stgs[k]'kl = S at *
    have er : ∀ {G : Hp}, Same H G → sgnB S.reads.s.length dg = false → ∀ a, G a = none → spFEI K [.ref a, g] (upd G a (exo a CT none)) (fun v' H2 => v' = .non ∧ ∃ (d : Addr) (fs : List (Str × V)), H2 a = some (exo a CT (some d)) ∧ H2 d = some (exd d fs) ∧ G d = none ∧ E (.ref CT) (some d) (upd (del H2 a) d (.xd fs))) (fun _ _ _ => False) := fun {G} sG eb a ha => ⟨a, CT, g, rfl, M.ox, M.no, upd_same, fun dx hdx hne => ⟨rfl, dx, [("value", g)], upd_same, (by rw [upd_ne hne, upd_same]), (by rw [upd_ne hne] at hdx; exact hdx), (by
      rw [upd_ne hne] at hdx
      refine eg k S rfl hS eb _ _ (fun b o hb => ?_) upd_same
      have hb1 := sG _ _ hb
      have n1 : b ≠ dx := ne_of_none hb1 hdx
      have n2 : b ≠ a := ne_of_none hb1 ha
      rw [upd_ne n1, del_ne n2, upd_ne n2, upd_ne n1, upd_ne n2]
      exact hb1)⟩⟩
    refine tNext_i ?_
    dsimp only
    refine ⟨_, rfl, _, rfl, _, rfl, ?_, ?_⟩
    · exact Nat.le_trans (show S.reads.s.length ≤ 2 by omega) (by decide)
    dsimp only [tNil]
    refine ⟨p, g, dg, S.reads.s.length, rfl, hg, shg, fun H2 s2 => ⟨_, rfl, ?_⟩⟩
    cases em : txtM S.reads.s.length dg with
    | false =>
      have eb2 : sgnB S.reads.s.length dg = false := by
        cases dg with
        | str z =>
          have em : (textB z && decide (z.cps.size ≤ S.reads.s.length)) = false := em
          show (textB z && decide (z.cps.size = S.reads.s.length)) = false
          by_cases tz : textB z = true
          · rw [tz, Bool.true_and, decide_eq_false_iff_not] at em
            rw [tz, Bool.true_and, decide_eq_false_iff_not]
            omega
          · rw [show textB z = false by simpa using tz]; rfl
        | _ => rfl
      exact iteTd rfl (iteTd rfl ⟨_, rfl, (by decide : 1 ≤ 1000), fun a ha => er s2 eb2 a ha⟩)
    | true =>
    refine iteFd rfl ?_
    cases hg with
    | str z =>
      have em : (textB z && decide (z.cps.size ≤ S.reads.s.length)) = true := em
      rw [Bool.and_eq_true, decide_eq_true_eq] at em
      obtain ⟨tz, lz⟩ := em
      have lz2 : z.length ≤ S.reads.s.length := lz
      refine ⟨_, rfl, z, rfl, Nat.le_trans (show z.length ≤ 2 by omega) (by decide), _, rfl, _, rfl, Nat.le_trans (show S.reads.s.length ≤ 2 by omega) (by decide), _, _, rfl, rfl, _, rfl, ?_⟩
      by_cases zl : z.length < S.reads.s.length
      · have eb2 : sgnB S.reads.s.length (.str z) = false := by
          show (textB z && decide (z.cps.size = S.reads.s.length)) = false
          rw [tz, Bool.true_and, decide_eq_false_iff_not]
          have : z.cps.size < S.reads.s.length := zl
          omega
        exact iteTd (decide_eq_true (by omega)) ⟨_, rfl, (by decide : 1 ≤ 1000), fun a ha => er s2 eb2 a ha⟩
      · refine iteFd (decide_eq_false (by omega)) (tNext_i ?_)
        dsimp only
        have ez := text_tx tz
        have lc : (toTx z).length = S.reads.s.length := by
          unfold toTx
          rw [List.length_map, Array.length_toList]
          show z.length = _
          omega
        generalize toTx z = c at ez lc
        subst ez
        refine ⟨_, rfl, _, rfl, ?_⟩
        dsimp only [tNil]
        refine ⟨c, rfl, by omega, ?_⟩
        have lr : valB c < S.rows.length := by
          rw [(tok.sg S (List.mem_of_getElem? hS)).2.1]
          have vb1 : ∀ b : Bool, valB [b] < 2 := by decide +kernel
          have vb2 : ∀ a b : Bool, valB [a, b] < 4 := by decide +kernel
          cases hr' : S.reads with
          | both =>
            rw [hr', show Rd.both.s.length = 2 by decide +kernel] at lc
            match c, lc with
            | [x, y], _ => exact vb2 x y
          | one =>
            rw [hr', show Rd.one.s.length = 1 by decide +kernel] at lc
            match c, lc with
            | [x], _ => exact vb1 x
          | two =>
            rw [hr', show Rd.two.s.length = 1 by decide +kernel] at lc
            match c, lc with
            | [x], _ => exact vb1 x
        have hro : S.rows[valB c]? = some (S.rows[valB c]'lr) := List.getElem?_eq_getElem lr
        obtain ⟨u', hu', ra⟩ := paired_atS h3 hro
        exact ⟨_, _, _, _, rfl, rfl, SqT.of (s2 _ _ h2), atI_nat (j := valB c) hu', q k S c rfl hS rfl lc H2 _ u' s2 hro (ra.keep (Tups.of s2))⟩
    | _ => exact absurd em Bool.false_ne_true
  | _ => exact absurd eb Bool.false_ne_true
end
end FY


set_option Elab.async false
set_option linter.all false
set_option maxRecDepth 100000
set_option maxHeartbeats 4000000
namespace FYR
open PySem PySem.Spec PyProof.Rows L2
/-! ### enumerate of a list or a tuple -/
def iEnumQ (K : PySem.W.Frag) (ta : TA) : TI := fun σ H R => iEnum K ta σ H R ∨ iEnumT K ta σ H R
theorem kEnumQ {X : Cx} (K : PySem.W.Frag) (hK : X.K = K) {e : Expr} {ta : TA} {p pos tpos : Pos} {elts : List Expr} {kk : Nat} (hg : Gl X "enumerate") (hm : X.mg "enumerate" = none) (ha : PA X [e] ta) (hs : starEach [e] X.env = [(false, eval e X.env)] := by rfl) :
    PI X (.Tuple elts kk tpos) (.Call (.Name "enumerate" p) [e] [] pos) (iEnumQ K ta) := ⟨fun pins s σ H R I h => h.elim ((kEnum K hK hg hm ha hs).run pins s σ H R I) ((pi_enumT K hK hg hm ha hs).run pins s σ H R I)⟩
theorem ienq_of {K : PySem.W.Frag} {H H0 : Hp} {a : Addr} {xs : List V} {ta : TA} {σ : L2.St} {R : It → Hp → Prop} (h : Qs H a xs) (ev : ∀ Q : List V → Hp → Prop, Q [.ref a] H → ta σ H0 Q)
    (r : ∀ (J : It) (G : Hp → Prop), Walk J xs.length G (YPair (fun i => some (.int (i : Nat))) (fun i => xs[i]?)) → (∀ H', (∀ o, H a = some o → H' a = some o) → G H') → R J H) : iEnumQ K ta σ H0 R := by
  rcases h with h | h
  · exact .inl (ev _ ⟨a, xs, rfl, SqL.of h, r _ _ walk_enum fun H' k => SqL.of (k _ h)⟩)
  · exact .inr (ev _ ⟨a, xs, rfl, SqT.of h, r _ _ walk_enumT fun H' k => SqT.of (k _ h)⟩)
end FYR

set_option Elab.async false
set_option linter.all false
set_option maxRecDepth 100000
set_option maxHeartbeats 8000000
namespace FY
open PySem L2 FYR
/-! ## a standing: of any value -/
def spIsToldT : Sp := fun vs H Q _ => ∃ (p : Addr) (v : V) (d : PyData) (ins outs many : Nat), vs = [v, .int (ins : Nat), .int (outs : Nat), .int (many : Nat)] ∧ Tv p H v d ∧ shStn d ∧ outs ≤ 2 ∧ ((elsO d).all fun b => decide ((elsO b).length ≤ 1000)) = true ∧ ∀ H', Same H H' → Q (.bl (stnB ins outs many d)) H'
theorem seq_tvO {p : Addr} {H : Hp} {v : V} {d : PyData} (h : Tv p H v d) (hs : isSeqD d = true) : ∃ a xs, v = .ref a ∧ a ≠ p ∧ Qs H a xs ∧ TvAll p H xs (elsO d) := by
  cases h with
  | lst n e r => exact ⟨_, _, rfl, n, .inl e, r⟩
  | tup n e r => exact ⟨_, _, rfl, n, .inr e, r⟩
  | _ => cases hs
theorem qs_orO {K : PySem.W.Frag} {H : Hp} {a : Addr} {xs : List V} (h : Qs H a xs) : SqL K H a xs ∨ SqT K H a xs := h.elim (fun h => .inl (SqL.of h)) fun h => .inr (SqT.of h)
section
variable {P : Program} {w : World} {K : PySem.W.Frag} {mg : Str → Option Value} {base : Heap} {aS a1 a2 aL aT : Addr} {f : Addr} {fd : FuncData}
theorem ok_is_standing_toldT (F : Fun K "is_standing_told" "is_standing_told" s_is_standing_told f fd) (T : Txt K mg aS a1 a2) (c_is_listW : C8.Cal P w K mg base 1 "is_list" (spIsListW w) []) (c_are_readT : C8.Cal P w K mg base 1 "are_read" spAreReadT []) (c_is_rowT : C8.Cal P w K mg base 4 "is_row" spIsRowT []) : FnOk P w K mg base CX0 5 f fd ["value", "ins", "outs", "many"] spIsToldT := by
  refine F.ok sc_is_standing_told (fun vs H Q E h => ?_) (fun cdv A outer s H vs Q E hr h => ?_)
  · obtain ⟨p, v, d, i, o, m, rfl, _⟩ := h
    rfl
  obtain ⟨p, v, d, ins, outs, many, rfl, hv, sh, o2, len, q⟩ := h
  refine ⟨_, (pss_cons (ps_if (PW.pt (pw_or (pt_not (pt_val (pe_callB (kIsi K rfl) rfl T.b_isinstance bt_isinstance (pa_cons (pv 0) (pa_cons (pTy rfl T.b_tuple bt_tuple) pa_nil))))) (pw_or (pt_cmpR op_ne (pe_callB (kLen K rfl) rfl T.b_len bt_len (pa_cons (pv 0) pa_nil)) pe_int (nomark _)) (pw_or (pt_not (pt_val (C8.pe_c c_are_readT hr (by decide) rfl (pa_cons (pe_ix (kIxT K rfl) (pv 0) pe_int (fun _ _ => rfl)) (pa_cons (pv 1) pa_nil))))) (pw_or1 (pt_not (pt_val (C8.pe_c c_is_listW hr (by decide) rfl (pa_cons (pe_ix (kIxT K rfl) (pv 0) pe_int (fun _ _ => rfl)) pa_nil)))))))))
        (pss_one (ps_ret pe_bl))
        pss_nil)
        (pss_cons (ps_set (i := 4) sc_is_standing_told.nd rfl (Or.inl rfl) (pe_ifExp (pt_cmpR op_eq (pe_ix (kIxT K rfl) (pv 0) pe_int (fun _ _ => rfl)) pe_str (nomark _)) pe_int pe_int))
        (pss_one (ps_ret (pe_and (pe_cmpR op_eq (pe_callB (kLen K rfl) rfl T.b_len bt_len (pa_cons (pe_ix (kIxT K rfl) (pv 0) pe_int (fun _ _ => rfl)) pa_nil)) (pv 4) (nomark _)) (pe_one (pe_callB (kAll K rfl rfl) rfl T.b_all bt_all (pa_cons (pe_lc (own := [("row", 5)]) rfl sc_is_standing_told.nd (kSq K rfl (pe_ix (kIxT K rfl) (pv 0) pe_int (fun _ _ => rfl))) (blkOk_by (N := N_is_standing_told) (sc := defScope s_is_standing_told) (by decide +kernel)) (fun _ _ _ _ _ => (pg_name (i := 5) sc_is_standing_told.nd rfl (Or.inl rfl))) (fun _ _ _ _ _ => pts_nil) (fun _ _ _ _ _ => (C8.pe_c c_is_rowT hr (by decide) rfl (pa_cons (pv 5) (pa_cons (pv 2) (pa_cons (pv 3) pa_nil)))))) pa_nil)))))))), ?_⟩
  have no : ∀ {G : Hp}, Same H G → stnB ins outs many d = false → Q (.bl false) G := fun s e => by
    have := q _ s
    rwa [e] at this
  refine ⟨_, rfl, _, _, _, _, _, rfl, .ty _, hv.ty, kit_tup d, _, rfl, ?_⟩
  cases hv with
  | @tup b ys es ne h0 hvs =>
    refine iteFd rfl ?_
    have les := hvs.len
    refine ⟨_, rfl, _, _, rfl, .inr (SqT.of h0), rfl, _, rfl, ?_⟩
    by_cases l3 : es.length = 2
    case neg =>
      have z : stnB ins outs many (.tuple es) = false := by
        match es, l3 with
        | [], _ => rfl
        | [_], _ => rfl
        | _ :: _ :: _ :: _, _ => rfl
      refine iteTd (by rw [les]; exact (congrArg not (decide_eq_false fun e => l3 (by have := V.int.inj e; omega)))) (no (fun _ _ e => e) z)
    refine iteFd (by rw [les, l3]; rfl) ?_
    obtain ⟨da, db, rfl⟩ : ∃ d0 d1, es = [d0, d1] := by
      match es, l3 with
      | [d0, d1], _ => exact ⟨_, _, rfl⟩
    cases hvs with
    | @cons va _ _ _ h1 hvs =>
    cases hvs with
    | @cons vb _ _ _ h2 hvs =>
    cases hvs
    have sh : rdKn da ∧ ∀ r ∈ elsO db, shRow r := sh
    have er : stnB ins outs many (.tuple [da, db]) = (readD ins da && isSeqD db && decide ((elsO db).length = manyR da) && (elsO db).all (rowB outs many)) := rfl
    refine ⟨_, rfl, _, _, _, _, rfl, rfl, SqT.of h0, atI_nat (j := 0) rfl, _, rfl, ?_⟩
    dsimp only [tNil]
    refine ⟨p, va, da, ins, rfl, h1, sh.1, ⟨_, rfl, ?_⟩⟩
    cases e1 : readD ins da with
    | false => exact iteTd rfl (no (fun _ _ e => e) (by rw [er, e1]; rfl))
    | true =>
    refine iteFd rfl ⟨_, rfl, _, _, _, _, rfl, rfl, SqT.of h0, atI_nat (j := 1) rfl, ?_⟩
    dsimp only [tNil]
    refine ⟨p, vb, some db, rfl, h2, fun H2 s2 => ⟨_, rfl, ?_⟩⟩
    by_cases so : isSeqD db = true
    case neg =>
      have so : isSeqD db = false := by simpa using so
      exact iteTd (by show (!isSeqD db) = true; rw [so]; rfl) (no s2 (by rw [er, so, Bool.and_false]; rfl))
    refine iteFd (by show (!isSeqD db) = false; rw [so]; rfl) (tNext_i ?_)
    dsimp only
    obtain ⟨a, xs, rfl, na, hQ, tv⟩ := seq_tvO h2 so
    have lx := tv.len
    cases h1 with
    | str z =>
      refine ⟨_, rfl, _, _, _, _, rfl, rfl, SqT.of (s2 _ _ h0), atI_nat (j := 0) rfl, rfl, _, rfl, ?_⟩
      have er2 : stnB ins outs many (.tuple [.str z, db]) = (decide ((elsO db).length = manyR (.str z)) && (elsO db).all (rowB outs many)) := by rw [er, e1, so]; rfl
      rw [er2] at q
      have s02 : Same H H2 := s2
      have emr : manyR (.str z) = if z = "12" then 4 else 2 := rfl
      have m4 : manyR (.str z) ≤ 4 := by
        rw [emr]
        by_cases c : z = "12"
        · rw [if_pos c]; exact Nat.le_refl _
        · rw [if_neg c]; exact (by decide : 2 ≤ 4)
      have key : ∀ n : Nat, n = manyR (.str z) → tRet (tAndV (tOp rEq (tCB (rLenK K) (tCons (tOp (rIxT K) (tVar 0) (tC (V.int 1))) tNil)) (tVar 4)) (tCB (rAll K) (tCons (tLc (iSq K (tOp (rIxT K) (tVar 0) (tC (V.int 1)))) (gName 5) tYes (tCall spIsRowT [] C8.E0 (tCons (tVar 5) (tCons (tVar 2) (tCons (tVar 3) tNil)))) (List.map (fun x => x.snd) [(Str.ofString "row", 5)])) tNil))) { nx := fun x H' => Q V.non H', rt := Q } [some (.ref b), some (.int (ins : Nat)), some (.int (outs : Nat)), some (.int (many : Nat)), some (.int (n : Nat)), none] H2 := fun n en => by
        refine ⟨_, rfl, _, _, _, _, rfl, rfl, SqT.of (s02 _ _ h0), atI_nat (j := 1) rfl, a, xs, rfl, qs_orO (hQ.on fun o e => s02 _ _ e), _, rfl, rfl, _, rfl, ?_⟩
        by_cases l2 : (elsO db).length = n
        case neg =>
          rw [← en, decide_eq_false l2, Bool.false_and] at q
          exact iteFd (decide_eq_false fun e => l2 (by have := V.int.inj e; omega)) (q _ s02)
        rw [← en, decide_eq_true l2, Bool.true_and] at q
        refine iteTd (decide_eq_true (by rw [lx, l2])) ?_
        refine isq_of (hQ.on fun o e => s02 _ _ e) (fun Q q => ⟨_, rfl, _, _, _, _, rfl, rfl, SqT.of (s02 _ _ h0), atI_nat (j := 1) rfl, q⟩) fun J GJ wJ kJ D hD => lc_it wJ (fun i G => Same H2 G ∧ G D = some (.lst (((elsO db).take i).map fun d => V.bl (rowB outs many d)))) ⟨same_new hD _, upd_same⟩ (fun i G _ z => kJ _ fun o e => z.1 _ _ e) ?_ ?_
        · rintro i x H3 H4 hi ⟨sm, hd⟩ ⟨rfl, hx⟩
          obtain ⟨d', hd', hv'⟩ := tv.at hx
          have s14 := s02.trans' sm
          refine ⟨rfl, tyI ⟨_, rfl, _, rfl, _, rfl, ?_⟩⟩
          dsimp only [tNil]
          refine ⟨p, x, d', outs, many, rfl, hv'.same s14, sh.2 d' (List.mem_of_getElem? hd'), o2, fun H5 s5 => ⟨_, s5 _ _ hd, ?_, same_at (sm.trans' s5) hD, ?_⟩⟩
          · rw [List.length_map, List.length_take]
            exact Nat.lt_of_le_of_lt (Nat.min_le_left _ _) (Nat.lt_of_lt_of_le (show i < 100000 by have m4 := m4; omega) (by decide))
          · rw [upd_same, List.take_add_one, hd', List.map_append]; rfl
        rintro H3 ⟨s3, hd⟩
        rw [lx, List.take_length] at hd
        refine ⟨_, (elsO db).map (rowB outs many), rfl, SqL.of (by rw [hd, List.map_map]; rfl), ?_⟩
        rw [List.all_map]
        exact q _ (s02.trans' s3)
      by_cases zz : z = "12"
      · refine iteTd (by rw [zz]; exact decide_eq_true rfl) ?_
        exact key 4 (by rw [emr, if_pos zz])
      · refine iteFd (decide_eq_false fun e => zz (V.str.inj e)) ?_
        exact key 2 (by rw [emr, if_neg zz])
    | _ => exact absurd e1 Bool.false_ne_true
  | _ => exact iteTd rfl (no (fun _ _ e => e) rfl)
end
end FY


set_option Elab.async false
set_option linter.all false
set_option maxRecDepth 100000
set_option maxHeartbeats 8000000
namespace FY
open PySem L2 FYR
/-! ## stations made of any values -/
/-- InvalidStandings, with its own __init__ -/
structure IsC (K : PySem.W.Frag) (mg : Str → Option Value) (CE fI : Addr) : Prop where
  gC : mg "InvalidStandings" = some (.ref CE)
  ox : OexC K CE
  iC : PySem.W.findIn K (.ref CE) "__init__" = some (some (.ref fI))
  tI : PySem.W.typeIn K (.ref fI) = some (.type "function")
  no : PySem.W.findIn K (.ref CE) "value" = some none
  noP : PySem.W.findIn K (.ref CE) "position" = some none
/-- it is on its way -/
def isE (CE : Addr) (E : XK) (H : Hp) (v : V) : Prop := ∀ H' d, Same H H' → H' d = some (.xd [("position", v), ("value", v)]) → E (.ref CE) (some d) H'
/-- a standing, told with its rows in a list or a tuple -/
def SgD (d : PyData) (S : Sg) : Prop := ∃ b, d = .tuple [.str S.reads.s, b] ∧ isSeqD b = true ∧ elsO b = S.rows.map rwD
def insD : PyData → Bool
  | .int i => decide (1 ≤ i) && decide (i ≤ 2)
  | _ => false
def sizB (d : PyData) : Bool := isSeqD d && (decide (1 ≤ (elsO d).length) && decide ((elsO d).length ≤ 4))
def lenO (d : PyData) : Prop := ((elsO d).all fun b => decide ((elsO b).length ≤ 1000)) = true
theorem tv_strs {p : Addr} {H : Hp} : ∀ {gs : List (List Bool)} {xs : List V}, TvAll p H xs (gs.map fun b => .str (tx b)) → xs = gs.map fun b => V.str (tx b)
  | [], _, h => by cases h; rfl
  | g :: gs, _, h => by
    cases h with
    | cons a b =>
      cases a
      rw [tv_strs b]
      rfl
theorem rwA_tv {p : Addr} {H : Hp} {v : V} {r : Rw} (h : Tv p H v (rwD r)) : RwA H v r := by
  cases h with
  | @tup a xs _ na ha hs =>
    cases hs with
    | cons h1 hs =>
    cases hs with
    | cons h2 hs =>
    cases hs with
    | cons h3 hs =>
    cases hs
    cases h2
    cases h3
    cases h1 with
    | @tup g ys _ ng hg hgs =>
      obtain rfl := tv_strs hgs
      exact ⟨a, g, rfl, ha, hg⟩
theorem rwA_tvs {p : Addr} {H : Hp} : ∀ {rs : List Rw} {xs : List V}, TvAll p H xs (rs.map rwD) → Paired (RwA H) xs rs
  | [], _, h => by cases h; exact .nil
  | r :: rs, _, h => by
    cases h with
    | cons a b => exact .cons (rwA_tv a) (rwA_tvs b)
theorem rdB {ins : Nat} {r : Rd} (h : r = .one ∨ ins = 2) : readD ins (.str r.s) = true := by
  cases r with
  | one => exact rd1 ins
  | two =>
    rcases h with h | h
    · cases h
    · exact (rd2 ins).trans (decide_eq_true h)
  | both =>
    rcases h with h | h
    · cases h
    · exact (rd12 ins).trans (decide_eq_true h)
theorem manyRd (r : Rd) : manyR (.str r.s) = r.many := by cases r <;> decide +kernel
theorem rowB_ok {r : Rw} {outs many : Nat} (h : r.ok outs many) : rowB outs many (rwD r) = true := by
  obtain ⟨r1, r2, r3, r4, r5⟩ := h
  show (gvsB outs (.tuple (r.gives.map fun b => .str (tx b))) && belD many (.int (r.goal : Nat)) && tckB (.int (r.ticks : Nat))) = true
  have e1 : gvsB outs (.tuple (r.gives.map fun b => .str (tx b))) = true := by
    show (decide ((r.gives.map fun b => PyData.str (tx b)).length = outs) && (r.gives.map fun b => PyData.str (tx b)).all (txtM 2)) = true
    rw [List.length_map, decide_eq_true r1, Bool.true_and, List.all_map]
    refine List.all_eq_true.mpr fun b hb => ?_
    show (textB (tx b) && decide ((tx b).cps.size ≤ 2)) = true
    rw [tx_text, Bool.true_and]
    have e := tx_len b
    have := r2 b hb
    exact decide_eq_true (by show (tx b).length ≤ 2; omega)
  have e2 : belD many (.int (r.goal : Nat)) = true := by
    show (decide (0 ≤ (r.goal : Int)) && decide ((r.goal : Int) < (many : Int))) = true
    rw [decide_eq_true (by omega), decide_eq_true (by omega)]; rfl
  have e3 : tckB (.int (r.ticks : Nat)) = true := by
    show (decide (1 ≤ (r.ticks : Int)) && decide ((r.ticks : Int) ≤ 9)) = true
    rw [decide_eq_true (by omega), decide_eq_true (by omega)]; rfl
  rw [e1, e2, e3]; rfl
theorem stnB_ok {d : PyData} {S : Sg} {ins outs many : Nat} (h : SgD d S) (ok : S.ok ins outs many) : stnB ins outs many d = true := by
  obtain ⟨b, rfl, hb, he⟩ := h
  obtain ⟨k1, k2, k3⟩ := ok
  show (readD ins (.str S.reads.s) && isSeqD b && decide ((elsO b).length = manyR (.str S.reads.s)) && (elsO b).all (rowB outs many)) = true
  rw [rdB k1, hb, he, manyRd, List.length_map, decide_eq_true k2, List.all_map]
  rw [List.all_eq_true.mpr fun r hr => (show (rowB outs many ∘ rwD) r = true from rowB_ok (k3 r hr))]; rfl
section
variable {K : PySem.W.Frag} {mg : Str → Option Value} {x : Str} {CE fI : Addr} {v : V} {E : XK} {H G : Hp}
theorem iv_q (M : IvC K mg x CE fI) (sG : Same H G) (e : ivE CE E H v) (a : Addr) (ha : G a = none) : spFEI K [.ref a, v] (upd G a (exo a CE none)) (fun v' H2 => v' = .non ∧ ∃ (d : Addr) (fs : List (Str × V)), H2 a = some (exo a CE (some d)) ∧ H2 d = some (exd d fs) ∧ G d = none ∧ E (.ref CE) (some d) (upd (del H2 a) d (.xd fs))) (fun _ _ _ => False) :=
  ⟨a, CE, v, rfl, M.ox, M.no, upd_same, fun dx hdx hne => ⟨rfl, dx, [("value", v)], upd_same, (by rw [upd_ne hne, upd_same]), (by rw [upd_ne hne] at hdx; exact hdx), (by
      rw [upd_ne hne] at hdx
      refine e _ _ (fun b o hb => ?_) upd_same
      have hb1 := sG _ _ hb
      have n1 : b ≠ dx := ne_of_none hb1 hdx
      have n2 : b ≠ a := ne_of_none hb1 ha
      rw [upd_ne n1, del_ne n2, upd_ne n2, upd_ne n1, upd_ne n2]
      exact hb1)⟩⟩
theorem is_q (M : IsC K mg CE fI) (sG : Same H G) (e : isE CE E H v) (a : Addr) (ha : G a = none) : spISI K [.ref a, v] (upd G a (exo a CE none)) (fun v' H2 => v' = .non ∧ ∃ (d : Addr) (fs : List (Str × V)), H2 a = some (exo a CE (some d)) ∧ H2 d = some (exd d fs) ∧ G d = none ∧ E (.ref CE) (some d) (upd (del H2 a) d (.xd fs))) (fun _ _ _ => False) :=
  ⟨a, CE, v, rfl, M.ox, M.no, M.noP, upd_same, fun dx hdx hne => ⟨rfl, dx, [("position", v), ("value", v)], (by rw [upd_ne (Ne.symm hne), upd_same]), upd_same, (by rw [upd_ne hne] at hdx; exact hdx), (by
      rw [upd_ne hne] at hdx
      refine e _ _ (fun b o hb => ?_) upd_same
      have hb1 := sG _ _ hb
      have n1 : b ≠ dx := ne_of_none hb1 hdx
      have n2 : b ≠ a := ne_of_none hb1 ha
      rw [upd_ne n1, del_ne n2, upd_ne n1, upd_ne n2, upd_ne n1, upd_ne n2]
      exact hb1)⟩⟩
end
/-- what is told to a station that is to be -/
def stCase (CI CO CS : Addr) (d1 d2 d3 : PyData) (v1 v2 : V) (E : XK) (H : Hp) (good : Stn → Prop) : Prop :=
  (insD d1 = false ∧ ivE CI E H v1) ∨
  (insD d1 = true ∧ insD d2 = false ∧ ivE CO E H v2) ∨
  (insD d1 = true ∧ insD d2 = true ∧ sizB d3 = false ∧ isE CS E H .non) ∨
  (∃ i o : Nat, d1 = .int (i : Nat) ∧ d2 = .int (o : Nat) ∧ insD d1 = true ∧ insD d2 = true ∧ sizB d3 = true ∧ ∃ (k : Nat) (d : PyData), (elsO d3)[k]? = some d ∧ (∀ j e, j < k → (elsO d3)[j]? = some e → stnB i o (elsO d3).length e = true) ∧ stnB i o (elsO d3).length d = false ∧ isE CS E H (.int (k : Nat))) ∨
  ∃ t : Stn, t.ok ∧ d1 = .int (t.ins : Nat) ∧ d2 = .int (t.outs : Nat) ∧ isSeqD d3 = true ∧ Paired SgD (elsO d3) t.stgs ∧ good t
def spStInitX (C CI CO CS : Addr) : Sp := fun vs H Q E => ∃ (p a dx : Addr) (v1 v2 v3 : V) (d1 d2 d3 : PyData), vs = [.ref a, v1, v2, v3] ∧ H a = some (.ins C dx []) ∧ Tv p H v1 d1 ∧ Tv p H v2 d2 ∧ Tv p H v3 d3 ∧ (∀ e ∈ elsO d3, shStn e ∧ lenO e) ∧
  stCase CI CO CS d1 d2 d3 v1 v2 E H fun t => ∀ H', (∀ b o, b ≠ a → H b = some o → H' b = some o) → StnA C H' (.ref a) t → Q .non H'
end FY


set_option Elab.async false
set_option linter.all false
set_option maxRecDepth 100000
set_option maxHeartbeats 8000000
namespace FY
open PySem L2 FYR
theorem Tv.but {p a C dx : Addr} {fs : List (Str × V)} {H H' : Hp} (k : But a H H') (ha : H a = some (.ins C dx fs)) {v : V} {d : PyData} (h : Tv p H v d) : Tv p H' v d := Tv.dk (fun b o _ dt e => k b o (fun z => by rw [z, ha] at e; cases e; exact dt) e) d h
section
variable {P : Program} {w : World} {K : PySem.W.Frag} {mg : Str → Option Value} {base : Heap} {aS a1 a2 aL : Addr} {f : Addr} {fd : FuncData} {C CI CO CS fI fJ : Addr}
theorem ok_Station_initX {fdI fdJ : FuncData} (F : Fun K "__init__" "Station.__init__" s_Station___init__ f fd) (T : Txt K mg aS a1 a2) (S : StC K mg C) (MI : IvC K mg "InvalidIns" CI fI) (MO : IvC K mg "InvalidOuts" CO fI) (MS : IsC K mg CS fJ) (G : FnOk P w K mg base CX0 1 fI fdI ["self", "value"] (spFEI K)) (bI : Binds K fdI ["self", "value"] []) (J : FnOk P w K mg base CX0 2 fJ fdJ ["self", "position"] (spISI K)) (bJ : Binds K fdJ ["self", "position"] []) (c_is_integerT : C8.Cal P w K mg base 1 "is_integer" spIsIntT []) (c_is_listW : C8.Cal P w K mg base 1 "is_list" (spIsListW w) []) (c_is_standing_toldT : C8.Cal P w K mg base 5 "is_standing_told" spIsToldT []) : FnOk P w K mg base (L2.CX P w) 6 f fd ["self", "ins", "outs", "standings"] (spStInitX C CI CO CS) := by
  refine F.okX sc_Station___init__ (fun vs H Q E h => ?_) (fun cdv A outer s0 H vs Q E hr h => ?_)
  · obtain ⟨p, a, dx, v1, v2, v3, d1, d2, d3, rfl, _⟩ := h
    rfl
  obtain ⟨p, a, dx, v1, v2, v3, d1, d2, d3, rfl, ha, h1, h2, h3, sh, cs⟩ := h
  refine ⟨_, (pss_cons (ps_if (PW.pt (pw_or (pt_not (pt_val (C8.pe_c c_is_integerT hr (by decide) rfl (pa_cons (pv 1) pa_nil)))) (pw_or1 (pt_not (pt_chain op_le op_le pe_int (pv 1) pe_int)))))
      (pss_one (ps_raise rfl (takes_of rfl rfl rfl rfl) (pmk_oex MI.ox MI.iC MI.tI G (hr.mono (by decide)) bI .nil pass0 rfl MI.gC (pa_cons (pv 1) pa_nil))))
      pss_nil)
      (pss_cons (ps_if (PW.pt (pw_or (pt_not (pt_val (C8.pe_c c_is_integerT hr (by decide) rfl (pa_cons (pv 2) pa_nil)))) (pw_or1 (pt_not (pt_chain op_le op_le pe_int (pv 2) pe_int)))))
      (pss_one (ps_raise rfl (takes_of rfl rfl rfl rfl) (pmk_oex MO.ox MO.iC MO.tI G (hr.mono (by decide)) bI .nil pass0 rfl MO.gC (pa_cons (pv 2) pa_nil))))
      pss_nil)
      (pss_cons (ps_if (PW.pt (pw_or (pt_not (pt_val (C8.pe_c c_is_listW hr (by decide) rfl (pa_cons (pv 3) pa_nil)))) (pw_or1 (pt_not (pt_chain op_le op_le pe_int (pe_callB (kLen K rfl) rfl T.b_len bt_len (pa_cons (pv 3) pa_nil)) (C8.pe_gc rfl T.g_MOST_STANDINGS))))))
      (pss_one (ps_raise rfl (takes_of rfl rfl rfl rfl) (pmk_oex MS.ox MS.iC MS.tI J (hr.mono (by decide)) bJ .nil pass0 rfl MS.gC (pa_cons pe_non pa_nil))))
      pss_nil)
      (pss_cons (ps_for (passes_of rfl) rfl (kEnumQ K rfl rfl T.b_enumerate (pa_cons (pv 3) pa_nil)) (kTupG (n := 2) K rfl rfl (pgs_cons (pg_name (i := 4) sc_Station___init__.nd rfl (Or.inl rfl)) (pgs_cons (pg_name (i := 5) sc_Station___init__.nd rfl (Or.inl rfl)) pgs_nil)))
      (pss_one (ps_if (pt_not (pt_val (C8.pe_c c_is_standing_toldT hr (by decide) rfl (pa_cons (pv 5) (pa_cons (pv 1) (pa_cons (pv 2) (pa_cons (pe_callB (kLen K rfl) rfl T.b_len bt_len (pa_cons (pv 3) pa_nil)) pa_nil)))))))
      (pss_one (ps_raise rfl (takes_of rfl rfl rfl rfl) (pmk_oex MS.ox MS.iC MS.tI J (hr.mono (by decide)) bJ .nil pass0 rfl MS.gC (pa_cons (pv 4) pa_nil))))
      pss_nil)))
      (pss_cons (kSetF K rfl (pv 0) (pv 1))
      (pss_cons (kSetF K rfl (pv 0) (pv 2))
      (pss_one (kSetF K rfl (pv 0) (pe_callTy (kTupOf K rfl) rfl T.b_tuple bt_tuple (pa_cons (pe_lc (own := [("reads", 6), ("rows", 7)]) rfl sc_Station___init__.nd (kSq K rfl (pv 3)) (blkOk_by (N := N_Station___init__) (sc := defScope s_Station___init__) (by decide +kernel)) (fun _ _ _ _ _ => (kTupG (n := 2) K rfl rfl (pgs_cons (pg_name (i := 6) sc_Station___init__.nd rfl (Or.inl rfl)) (pgs_cons (pg_name (i := 7) sc_Station___init__.nd rfl (Or.inl rfl)) pgs_nil)))) (fun _ _ _ _ _ => pts_nil) (fun _ _ _ _ _ => (pe_tup (pa_cons (pv 6) (pa_cons (pe_callTy (kTupOf K rfl) rfl T.b_tuple bt_tuple (pa_cons (pv 7) pa_nil)) pa_nil))))) pa_nil)))))))))), ?_⟩
  -- ins
  refine ⟨_, rfl, ?_⟩
  dsimp only [tNil]
  refine ⟨p, v1, d1, rfl, h1, ⟨_, rfl, ?_⟩⟩
  have rng : ∀ {i : Int}, insD (.int i) = true → 1 ≤ i ∧ i ≤ 2 := fun {i} e => by
    have e : (decide (1 ≤ i) && decide (i ≤ 2)) = true := e
    simpa using e
  rcases cs with ⟨b1, e⟩ | cs
  · cases h1 with
    | int i =>
      have b1 : (decide (1 ≤ i) && decide (i ≤ 2)) = false := b1
      refine iteFd rfl ⟨_, rfl, _, _, rfl, rfl, _, rfl, ?_⟩
      by_cases z : 1 ≤ i
      · rw [decide_eq_true z, Bool.true_and] at b1
        exact iteTd (decide_eq_true z) ⟨_, _, rfl, rfl, _, rfl, iteTd (by show (!decide (i ≤ 2)) = true; rw [b1]; rfl) ⟨_, rfl, (by decide : 1 ≤ 1000), fun a ha => iv_q MI (fun _ _ e => e) e a ha⟩⟩
      · exact iteFd (decide_eq_false z) ⟨_, rfl, iteTd rfl ⟨_, rfl, (by decide : 1 ≤ 1000), fun a ha => iv_q MI (fun _ _ e => e) e a ha⟩⟩
    | _ => exact iteTd rfl (iteTd rfl ⟨_, rfl, (by decide : 1 ≤ 1000), fun a ha => iv_q MI (fun _ _ e => e) e a ha⟩)
  obtain ⟨i, rfl, i1, i2⟩ : ∃ i : Nat, d1 = .int (i : Nat) ∧ 1 ≤ i ∧ i ≤ 2 := by
    have key : insD d1 = true → ∃ i : Nat, d1 = .int (i : Nat) ∧ 1 ≤ i ∧ i ≤ 2 := fun e => by
      cases d1 with
      | int i =>
        obtain ⟨a, b⟩ := rng e
        exact ⟨i.toNat, congrArg PyData.int (by omega), by omega, by omega⟩
      | _ => cases e
    rcases cs with ⟨a, _⟩ | ⟨a, _⟩ | ⟨_, _, _, _, a, _⟩ | ⟨t, tok, rfl, _⟩
    · exact key a
    · exact key a
    · exact key a
    · exact ⟨t.ins, rfl, tok.i1, tok.i2⟩
  cases h1
  refine iteFd rfl ⟨_, rfl, _, _, rfl, rfl, _, rfl, iteTd (by simp; omega) ⟨_, _, rfl, rfl, _, rfl, iteFd (by simp; omega) ?_⟩⟩
  -- outs
  refine ⟨_, rfl, ?_⟩
  dsimp only [tNil]
  refine ⟨p, v2, d2, rfl, h2, ⟨_, rfl, ?_⟩⟩
  rcases cs with ⟨_, b1, e⟩ | cs
  · cases h2 with
    | int i =>
      have b1 : (decide (1 ≤ i) && decide (i ≤ 2)) = false := b1
      refine iteFd rfl ⟨_, rfl, _, _, rfl, rfl, _, rfl, ?_⟩
      by_cases z : 1 ≤ i
      · rw [decide_eq_true z, Bool.true_and] at b1
        exact iteTd (decide_eq_true z) ⟨_, _, rfl, rfl, _, rfl, iteTd (by show (!decide (i ≤ 2)) = true; rw [b1]; rfl) ⟨_, rfl, (by decide : 1 ≤ 1000), fun a ha => iv_q MO (fun _ _ e => e) e a ha⟩⟩
      · exact iteFd (decide_eq_false z) ⟨_, rfl, iteTd rfl ⟨_, rfl, (by decide : 1 ≤ 1000), fun a ha => iv_q MO (fun _ _ e => e) e a ha⟩⟩
    | _ => exact iteTd rfl (iteTd rfl ⟨_, rfl, (by decide : 1 ≤ 1000), fun a ha => iv_q MO (fun _ _ e => e) e a ha⟩)
  obtain ⟨o, rfl, o1, o2⟩ : ∃ i : Nat, d2 = .int (i : Nat) ∧ 1 ≤ i ∧ i ≤ 2 := by
    have key : insD d2 = true → ∃ i : Nat, d2 = .int (i : Nat) ∧ 1 ≤ i ∧ i ≤ 2 := fun e => by
      cases d2 with
      | int i =>
        obtain ⟨a, b⟩ := rng e
        exact ⟨i.toNat, congrArg PyData.int (by omega), by omega, by omega⟩
      | _ => cases e
    rcases cs with ⟨_, a, _⟩ | ⟨_, _, _, _, _, a, _⟩ | ⟨t, tok, _, rfl, _⟩
    · exact key a
    · exact key a
    · exact ⟨t.outs, rfl, tok.o1, tok.o2⟩
  cases h2
  refine iteFd rfl ⟨_, rfl, _, _, rfl, rfl, _, rfl, iteTd (by simp; omega) ⟨_, _, rfl, rfl, _, rfl, iteFd (by simp; omega) ?_⟩⟩
  -- standings
  refine ⟨_, rfl, ?_⟩
  dsimp only [tNil]
  refine ⟨p, v3, some d3, rfl, h3, fun H1 s1 => ⟨_, rfl, ?_⟩⟩
  have eo : seqO (some d3) = isSeqD d3 := rfl
  rw [eo]
  rcases cs with ⟨_, _, b1, e⟩ | cs
  · by_cases sq : isSeqD d3 = true
    · rw [sq]
      obtain ⟨a3, xs, rfl, na, hQ, tv⟩ := seq_tvO h3 sq
      have lx := tv.len
      have b1 : (isSeqD d3 && (decide (1 ≤ (elsO d3).length) && decide ((elsO d3).length ≤ 4))) = false := b1
      rw [sq, Bool.true_and] at b1
      refine iteFd rfl ⟨_, rfl, a3, xs, rfl, qs_orO (hQ.on fun o e => s1 _ _ e), _, _, rfl, rfl, _, rfl, ?_⟩
      by_cases z : 1 ≤ (elsO d3).length
      · rw [decide_eq_true z, Bool.true_and, decide_eq_false_iff_not] at b1
        exact iteTd (by simp; omega) ⟨_, _, rfl, rfl, _, rfl, iteTd (by simp; omega) ⟨(by decide : 1 ≤ 1000), fun a ha => is_q MS s1 e a ha⟩⟩
      · exact iteFd (by simp; omega) ⟨_, rfl, iteTd rfl ⟨(by decide : 1 ≤ 1000), fun a ha => is_q MS s1 e a ha⟩⟩
    · rw [show isSeqD d3 = false by simpa using sq]
      exact iteTd rfl (iteTd rfl ⟨(by decide : 1 ≤ 1000), fun a ha => is_q MS s1 e a ha⟩)
  have allB : ∀ t : Stn, t.ok → Paired SgD (elsO d3) t.stgs → t.ins = i → t.outs = o → ∀ (k : Nat) (d : PyData), (elsO d3)[k]? = some d → stnB i o (elsO d3).length d = true := fun t tok pr e1 e2 k d hd => by
    obtain ⟨S, hS, sg⟩ := paired_get pr hd
    rw [paired_len pr, ← e1, ← e2]
    exact stnB_ok sg (tok.sg S (List.mem_of_getElem? hS))
  have eI : ∀ {a b : Nat}, PyData.int (a : Nat) = .int (b : Nat) → a = b := fun {a b} e => by
    have := PyData.int.inj e
    omega
  have szT : sizB d3 = true := by
    rcases cs with ⟨_, _, _, _, _, _, a, _⟩ | ⟨t, tok, _, _, sq, pr, _⟩
    · exact a
    · have l := paired_len pr
      have m1 := tok.m1
      have m2 := tok.m2
      show (isSeqD d3 && (decide (1 ≤ (elsO d3).length) && decide ((elsO d3).length ≤ 4))) = true
      rw [sq, decide_eq_true (by omega), decide_eq_true (by omega)]; rfl
  have raiseK : ∀ (k : Nat) (d : PyData), (elsO d3)[k]? = some d → (∀ j e, j < k → (elsO d3)[j]? = some e → stnB i o (elsO d3).length e = true) → stnB i o (elsO d3).length d = false → isE CS E H (.int (k : Nat)) := fun k d hd hj hf => by
    rcases cs with ⟨i', o', e1, e2, _, _, _, k0, d0, hd0, hj0, hf0, e⟩ | ⟨t, tok, e1, e2, sq, pr, _⟩
    · obtain rfl := eI e1
      obtain rfl := eI e2
      rcases Nat.lt_trichotomy k k0 with l | l | l
      · rw [hj0 k d l hd] at hf; cases hf
      · subst l; exact e
      · rw [hj k0 d0 l hd0] at hf0; cases hf0
    · rw [allB t tok pr (eI e1).symm (eI e2).symm k d hd] at hf; cases hf
  have good : (∀ j e, (elsO d3)[j]? = some e → stnB i o (elsO d3).length e = true) → ∃ t : Stn, t.ok ∧ i = t.ins ∧ o = t.outs ∧ Paired SgD (elsO d3) t.stgs ∧ ∀ H', (∀ b o, b ≠ a → H b = some o → H' b = some o) → StnA C H' (.ref a) t → Q .non H' := fun all => by
    rcases cs with ⟨i', o', e1, e2, _, _, _, k0, d0, hd0, hj0, hf0, e⟩ | ⟨t, tok, e1, e2, sq, pr, q⟩
    · obtain rfl := eI e1
      obtain rfl := eI e2
      rw [all k0 d0 hd0] at hf0; cases hf0
    · exact ⟨t, tok, eI e1, eI e2, pr, q⟩
  clear cs
  have szT' : (isSeqD d3 && (decide (1 ≤ (elsO d3).length) && decide ((elsO d3).length ≤ 4))) = true := szT
  simp only [Bool.and_eq_true, decide_eq_true_eq] at szT'
  obtain ⟨sq, n1, n4⟩ := szT'
  rw [sq]
  obtain ⟨a3, xs, rfl, na, hQ, tv⟩ := seq_tvO h3 sq
  have lx := tv.len
  refine iteFd rfl ⟨_, rfl, a3, xs, rfl, qs_orO (hQ.on fun o e => s1 _ _ e), _, _, rfl, rfl, _, rfl, iteTd (by simp; omega) ⟨_, _, rfl, rfl, _, rfl, iteFd (by simp; omega) ?_⟩⟩
  -- each of them
  refine ienq_of (hQ.on fun o e => s1 _ _ e) (fun Q q => ⟨_, rfl, q⟩) fun J GJ wJ kJ => for_it wJ (fun k σ H' => ∃ z4 z5 : Option V, σ = [some (.ref a), some (.int (i : Nat)), some (.int (o : Nat)), some (.ref a3), z4, z5, none, none] ∧ Same H H' ∧ ∀ j e, j < k → (elsO d3)[j]? = some e → stnB i o (elsO d3).length e = true) ⟨_, _, rfl, s1, fun j e z _ => absurd z (Nat.not_lt_zero _)⟩ (fun k σ H' _ ⟨_, _, _, e, _⟩ => kJ _ fun o z => by rcases hQ with h | h <;> (rw [s1 _ _ h] at z; cases z; exact e _ _ h)) ?_ ?_
  · rintro k x σ H2 H3 hk ⟨z4, z5, rfl, sm, all⟩ ⟨T0, p1, p2, rfl, hT0, rfl, hp1, hp2⟩
    obtain ⟨d, hd, hx⟩ := tv.at hp2
    obtain rfl := Option.some.inj hp1
    have k0 := same_new hT0 (.tup [V.int (k : Nat), p2])
    refine ⟨_, _, rfl, SqT.of upd_same, rfl, _, _, rfl, _, _, rfl, rfl, ?_⟩
    have s2 := sm.trans' k0
    have shd := sh d (List.mem_of_getElem? hd)
    refine ⟨_, rfl, _, rfl, _, rfl, _, rfl, a3, xs, rfl, qs_orO (hQ.on fun o e => s2 _ _ e), ?_⟩
    dsimp only [tNil]
    refine ⟨p, p2, d, i, o, xs.length, rfl, hx.same s2, shd.1, o2, shd.2, fun H4 s4 => ⟨_, rfl, ?_⟩⟩
    rw [lx]
    cases eb : stnB i o (elsO d3).length d with
    | false => exact iteTd rfl ⟨_, rfl, (by decide : 1 ≤ 1000), fun a ha => is_q MS (s2.trans' s4) (raiseK k d hd all eb) a ha⟩
    | true =>
      refine iteFd rfl ⟨_, _, rfl, s2.trans' s4, fun j e l he => ?_⟩
      by_cases z : j = k
      · subst z
        rw [hd] at he
        obtain rfl := Option.some.inj he
        exact eb
      · exact all j e (by omega) he
  rintro σ H2 ⟨z4, z5, rfl, sm, all⟩
  rw [lx] at all
  obtain ⟨t, tok, rfl, rfl, pr, q⟩ := good fun j e he => all j e (lt_len he) he
  have ha2 := sm _ _ ha
  have hwl := paired_len pr
  refine ⟨_, rfl, _, rfl, a, C, dx, _, rfl, ha2, S.cl, S.nI, by decide, ?_⟩
  refine ⟨_, rfl, _, rfl, a, C, dx, [("own_ins", .int t.ins)], rfl, upd_same, S.cl, S.nO, Nat.lt_of_lt_of_le (Nat.lt_succ_self 1) (by decide : 2 ≤ 1000), ?_⟩
  rw [pf1]
  obtain ⟨H4, hH4⟩ : ∃ H4, H4 = upd (upd H2 a (.ins C dx (putF "own_ins" (.int t.ins) []))) a (.ins C dx [("own_ins", .int t.ins), ("own_outs", .int t.outs)]) := ⟨_, rfl⟩
  have ha4 : H4 a = some (.ins C dx [("own_ins", .int t.ins), ("own_outs", .int t.outs)]) := by rw [hH4, upd_same]
  have b4 : But a H H4 := fun b o hb e => by rw [hH4, upd_ne hb, upd_ne hb]; exact sm _ _ e
  rw [← hH4]
  clear hH4
  have hQ4 : Qs H4 a3 xs := by
    rcases hQ with h | h
    · exact .inl (b4.lst ha h)
    · exact .inr (b4.tups ha _ _ h)
  have tv4 : TvAll p H4 xs (elsO d3) := TvAll.dk (fun b o _ dt e => b4 b o (fun z => by rw [z, ha] at e; cases e; exact dt) e) _ tv
  refine isq_of hQ4 (fun Q q => ⟨_, rfl, q⟩) fun J GJ wJ kJ D hD => lc_it wJ (fun k H' => Same H4 H' ∧ ∃ us, H' D = some (.lst us) ∧ Paired (SgA H') us (t.stgs.take k)) ⟨same_new hD _, [], upd_same, .nil⟩ (fun k H' _ z => kJ _ fun o e => z.1 _ _ e) ?_ ?_
  · rintro k x H5 H6 hk ⟨sm5, us, hd, pu⟩ ⟨rfl, hx⟩
    obtain ⟨d, hdd, hxd⟩ := tv4.at hx
    obtain ⟨sg, hsg, b, rfl, sqb, eb⟩ := paired_get pr hdd
    obtain ⟨c, ys, rfl, nc, hc, hys⟩ := tv_tup (hxd.same sm5)
    obtain ⟨y1, y2, rfl, hy1, hy2⟩ := tvs_two hys
    cases hy1
    obtain ⟨l, rs, rfl, nl, hl, hrs⟩ := seq_tvO hy2 sqb
    rw [eb] at hrs
    have prs := rwA_tvs hrs
    have hlu := paired_len pu
    have hil := lt_len hsg
    have m2 := tok.m2
    refine ⟨_, _, rfl, SqT.of hc, rfl, _, _, rfl, _, _, rfl, rfl, rfl, tyI ⟨_, rfl, _, rfl, l, rs, rfl, ?_⟩⟩
    rcases hl with hl | hl
    · refine .inl ⟨SqL.of hl, fun p1 hp1 => ⟨sz rfl, fun p2 hp2 => ?_⟩⟩
      have k1 := same_new hp1 (.tup rs)
      have k2 := same_new hp2 (.tup [.str sg.reads.s, .ref p1])
      have hd2 := k2 _ _ (k1 _ _ hd)
      have tu : Tups H6 (upd (upd (upd H6 p1 (.tup rs)) p2 (.tup [.str sg.reads.s, .ref p1])) D (.lst (us ++ [.ref p2]))) := (Tups.of (k1.trans' k2)).trans (tups_at hd2)
      refine ⟨_, hd2, ?_, same_at ((sm5.trans' k1).trans' k2) hD, us ++ [.ref p2], upd_same, ?_⟩
      · rw [List.length_take] at hlu
        exact Nat.lt_of_lt_of_le (show us.length < 100000 by omega) (by decide)
      · rw [List.take_succ, hsg]
        exact paired_app (sgA_all tu pu) (.cons ⟨p2, p1, rs, rfl, tups_at hd2 _ _ upd_same, tups_at hd2 _ _ (k2 _ _ upd_same), rwA_all tu prs⟩ .nil)
    · refine .inr ⟨SqT.of hl, sz rfl, fun p2 hp2 => ?_⟩
      have k2 := same_new hp2 (.tup [.str sg.reads.s, .ref l])
      have hd2 := k2 _ _ hd
      have tu : Tups H6 (upd (upd H6 p2 (.tup [.str sg.reads.s, .ref l])) D (.lst (us ++ [.ref p2]))) := (Tups.of k2).trans (tups_at hd2)
      refine ⟨_, hd2, ?_, same_at (sm5.trans' k2) hD, us ++ [.ref p2], upd_same, ?_⟩
      · rw [List.length_take] at hlu
        exact Nat.lt_of_lt_of_le (show us.length < 100000 by omega) (by decide)
      · rw [List.take_succ, hsg]
        exact paired_app (sgA_all tu pu) (.cons ⟨p2, l, rs, rfl, tups_at hd2 _ _ upd_same, tups_at hd2 _ _ (k2 _ _ hl), rwA_all tu prs⟩ .nil)
  · rintro H5 ⟨sm5, us, hd, pu⟩
    rw [lx, hwl, List.take_of_length_le (Nat.le_refl _)] at pu
    refine ⟨_, _, rfl, .inl ⟨SqL.of hd, fun p hp => ?_⟩⟩
    have kp := same_new hp (.tup us)
    refine ⟨_, rfl, a, C, dx, _, rfl, kp _ _ (sm5 _ _ ha4), S.cl, S.nS, Nat.lt_of_lt_of_le (Nat.lt_succ_self 2) (by decide : 3 ≤ 1000), ?_⟩
    rw [pf2]
    have haK : upd H5 p (.tup us) a = some (.ins C dx [("own_ins", .int t.ins), ("own_outs", .int t.outs)]) := kp _ _ (sm5 _ _ ha4)
    have bK : But a (upd H5 p (.tup us)) (upd (upd H5 p (.tup us)) a (.ins C dx [("own_ins", .int t.ins), ("own_outs", .int t.outs), ("own_standings", .ref p)])) := fun b o hb e => by rw [upd_ne hb]; exact e
    refine q _ (fun b o hb e => bK b o hb (kp _ _ (sm5 _ _ (b4 b o hb e)))) ⟨a, dx, p, us, rfl, upd_same, bK.tups haK _ _ upd_same, sgA_all ((Tups.of kp).trans (bK.tups haK)) pu⟩
end
end FY


set_option Elab.async false
set_option linter.all false
set_option maxRecDepth 100000
set_option maxHeartbeats 4000000
/-! == by an own __eq__ that may say either, also beside a text -/
namespace FYR
open PySem PySem.Spec PyProof.Rows L2
structure EqI (P : Program) (w : World) (K : PySem.W.Frag) (mg : Str → Option Value) (base : Heap) (k : Nat) (C : Addr) (sp : Sp) : Prop where
  ex : ∃ (f : Addr) (fd : FuncData) (ps : List Str), FnOk P w K mg base C8.CX0 k f fd ps sp ∧ PySem.W.findIn K (.ref C) "__eq__" = some (some (.ref f)) ∧ PySem.W.isFn K (.ref f) = true ∧ Binds K fd ps []
def rEqI (C : Addr) (sp : Sp) : R2 := fun x y H Q => ∃ a dx fs, x = .ref a ∧ H a = some (.ins C dx fs) ∧ ((∃ b dy gs, y = .ref b ∧ H b = some (.ins C dy gs)) ∨ ∃ s, y = .str s) ∧ sp [x, y] H (fun v H' => ∃ b, v = .bl b ∧ Q (.bl b) H') C8.E0
theorem op_eqI {X : Cx} {n j : Nat} {C : Addr} {sp : Sp} (c : EqI X.prog X.w X.K X.mg X.base n C sp) (hr : Room j X.A) (hk : n ≤ j) : OpR X (compareOp .Eq) (rEqI C sp) := by
  intro pins s σ H x y v u Q I rx ry hq
  obtain ⟨f, fd, ps, F, hs, hf, hb⟩ := c.ex
  obtain ⟨a, dx, fs, rfl, ha, hy, hsp0⟩ := hq
  cases rx
  obtain ⟨mA, J, _⟩ := ins_get I.hok ha
  obtain ⟨od, J, _⟩ := J.look
  obtain ⟨m, hF⟩ := I.fr
  have rm : Room n X.A := hr.mono hk
  show wpAny (model X.prog X.w) X.A (richCompare .Eq (.ref a) u) (EP X pins σ Q) X.xe s
  have e0 : Env0 X.prog X.w X.K X.mg X.base X.A X.stack s H := I.env0
  have go : ∀ tb : Value, PySem.W.Looks (model X.prog X.w) s.heap (typeOf u) tb → PySem.W.notFirst X.K C tb = true → wpAny (model X.prog X.w) X.A (richCompare .Eq (.ref a) u) (EP X pins σ Q) X.xe s := fun tb LT hn => by
    refine PySem.W.cmp_K (op := .Eq) (tb := tb) (by have := rm.un; show X.A.units < cLine; omega) hF I.ok.mod.kin J LT hn hs hf ?_
    have hl := F.len _ _ _ _ hsp0
    have r2 : Vals [V.ref a, y] [Value.ref a, u] := .cons rfl (.cons ry .nil)
    refine wpAny_call (codeAny_mono (F.run X.A X.stack s H ⟨[.ref a, u], []⟩ [.ref a, u] [.ref a, y] _ C8.E0 rm e0 (by
      have := hb s [.ref a, u] I.kIn (by simpa using hl)
      simpa using this) r2 hsp0) fun r s' hq => ?_)
    cases r with
    | error e => exact False.elim hq
    | ok fl =>
      cases fl with
      | ret w =>
        obtain ⟨z, H', I', rz, b, ez, qk⟩ := I.after hq
        subst ez
        cases rz
        exact ⟨.bl b, H', I', rfl, qk⟩
      | next => exact False.elim hq
      | brk => exact False.elim hq
      | cont => exact False.elim hq
  rcases hy with ⟨b, dy, gs, rfl, hb'⟩ | ⟨t, rfl⟩
  · cases ry
    obtain ⟨mB, J', _⟩ := ins_get I.hok hb'
    obtain ⟨od', J', _⟩ := J'.look
    exact go (.ref C) J'.type (by simp [PySem.W.notFirst])
  · obtain ⟨k, rfl⟩ := ry
    refine go (.type "str") (fun A Q E s k q => ?_) ?_
    · unfold typeOf
      exact wpAny_pure q
    · unfold PySem.W.notFirst
      have e : PySem.W.subIn X.K (.type "str") (.ref C) = some false := rfl
      rw [e]
      simp
theorem kEqI {X : Cx} {n j : Nat} {C : Addr} {sp : Sp} (c : EqI X.prog X.w X.K X.mg X.base n C sp) (hr : Room j X.A) (hk : n ≤ j) : OpR X (compareOp .Eq) (rEqI C sp) := op_eqI c hr hk
end FYR

set_option Elab.async false
set_option linter.all false
set_option maxRecDepth 100000
set_option maxHeartbeats 4000000
namespace FYR
open PySem PySem.Spec PyProof.Rows L2
/-! ### repr of an instance whose class has an own __repr__, where no repr is under way -/
structure RepI (P : Program) (w : World) (K : PySem.W.Frag) (mg : Str → Option Value) (base : Heap) (k : Nat) (C : Addr) (sp : Sp) : Prop where
  ex : ∃ (f : Addr) (fd : FuncData) (ps : List Str), FnG P w K mg base k f fd ps sp ∧ PySem.W.findIn K (.ref C) "__repr__" = some (some (.ref f)) ∧ PySem.W.isFn K (.ref f) = true ∧ Binds K fd ps []
def rReprI (C : Addr) (sp : Sp) : List V → Hp → VK → Prop := fun xs H Q => ∃ y dx fs, xs = [.ref y] ∧ H y = some (.ins C dx fs) ∧ sp [.ref y] H (fun v H' => ∃ t, v = .str t ∧ Q (.str t) H') C8.E0
theorem kReprI {X : Cx} {n j : Nat} {C : Addr} {sp : Sp} (R : RepI X.prog X.w X.K X.mg X.base n C sp) (hgd : X.A.guards = some []) (hr : Room j X.A) (hk : n + 1 ≤ j) : CallR X (.builtin "repr") (rReprI C sp) := by
    obtain ⟨f, fd, ps, Fn, hs, hf, hb⟩ := R.ex
    have hr1 : Room (n + 1) X.A := hr.mono hk
    intro pins s σ H xs us Q I rv h
    obtain ⟨y, dx, fs, rfl, hy, q1⟩ := h
    obtain ⟨u, rfl, ru⟩ := rv.one
    cases ru
    obtain ⟨mA, J, _⟩ := ins_get I.hok hy
    obtain ⟨od, J, _⟩ := J.look
    have spc : PySem.W.Looks (model X.prog X.w) s.heap (specialOf (.ref y) "__repr__") (some (.ref f)) := J.type.andThen (PySem.W.looks_findIn I.kIn hs)
    have len := Fn.len _ _ _ _ q1
    have e1 : Env0 X.prog X.w X.K X.mg X.base X.A.in1 X.stack s H := I.env0.in1
    have run : wpAny (model X.prog X.w) X.A.in1 (call (.ref f) [.ref y]) (fun v s' => ∃ t k H', v = .str t k ∧ Inv X pins σ H' s' ∧ Q (.str t) H') X.xe s := by
      refine wpAny_call (codeAny_mono (Fn.run X.A.in1 X.stack s H ⟨[.ref y], []⟩ [.ref y] [.ref y] _ C8.E0 hgd hr1.in1 e1 (by
        have z := hb s [.ref y] I.kIn (by simpa using len)
        simpa using z) (.cons rfl .nil) q1) fun r s' hq => ?_)
      cases r with
      | error e => exact False.elim hq
      | ok fl =>
        cases fl with
        | ret w =>
          obtain ⟨z, H', I', rz, t, ez, qk⟩ := I.after hq
          subst ez
          obtain ⟨k, rfl⟩ := rz
          exact ⟨t, k, H', rfl, I', qk⟩
        | next => exact False.elim hq
        | brk => exact False.elim hq
        | cont => exact False.elim hq
    have hu := hr1.un
    refine Calls.call_function_entry PySem.F.kind_repr PySem.F.plain_repr PySem.F.entry_repr (PySem.F.args_repr1 _) ?_
    unfold Builtin.«repr»
    refine wpAny_bind (m := oneArg "repr" _) (wpAny_pure ?_)
    refine wpAny_bind (wpAny_cRoomFor (by show X.A.units + 1 < cLine; omega) ?_)
    refine wpAny_bind (spc.here ?_)
    show wpAny _ _ (if (some (Value.ref f)).isNone = true then _ else _) _ _ _
    rw [if_neg (by simp)]
    have fin : wpAny (model X.prog X.w) X.A.in1 (call (.ref f) ([.ref y] ++ []) >>= fun v => pure (some v)) (fun r s' => ∃ v t k H', r = some v ∧ v = .str t k ∧ Inv X pins σ H' s' ∧ Q (.str t) H') X.xe s := wpAny_bind (wpAny_mono run (fun v s' ⟨t, k, H', e, I', qk⟩ => wpAny_pure ⟨v, t, k, H', rfl, e, I', qk⟩) fun _ _ h' => h')
    refine wpAny_bind (m := callSpecialIfBound? (.ref y) (PySem.Str.ofString "__repr__") _) (wpAny_mono (Q := fun r s' => ∃ v t k H', r = some v ∧ v = .str t k ∧ Inv X pins σ H' s' ∧ Q (.str t) H') ?_ (fun r s' ⟨v, t, k, H', e, ev, I', qk⟩ => ?_) fun _ _ h' => h')
    · simp only [callSpecialIfBound?, bindSpecialIfBound?]
      refine wpAny_holding (wpAny_bind (wpAny_bind (spc.here ?_)))
      refine wpAny_bind (wpAny_askSetting (wpAny_ite ?_))
      split
      · exact wpAny_bind ((PySem.W.bind_fn I.kIn _ (beq_iff_eq.mp hf)).here (wpAny_pure (by exact fin)))
      · exact wpAny_tryCatch (wpAny_bind ((PySem.W.bind_fn I.kIn _ (beq_iff_eq.mp hf)).here (wpAny_pure (by exact fin))))
    · subst e
      subst ev
      refine wpAny_bind (wpAny_isInstance (T := "str") (b := true) rfl isSubtype_str_str ?_)
      first
        | exact wpAny_pure ⟨_, rfl, .str t, H', I', ⟨k, rfl⟩, qk⟩
        | (rw [if_pos rfl]; exact wpAny_pure ⟨_, rfl, .str t, H', I', ⟨k, rfl⟩, qk⟩)
end FYR

set_option Elab.async false
set_option linter.all false
set_option maxRecDepth 100000
set_option maxHeartbeats 4000000
namespace FY
open PySem L2 FYR
theorem kListOf {X : Cx} (K : PySem.W.Frag) (hK : X.K = K) : CallR X (.type "list") (fun xs H Q => ∃ p ys, xs = [.ref p] ∧ (SqL K H p ys ∨ SqT K H p ys) ∧ ∀ l, H l = none → Q (.ref l) (upd H l (.lst ys))) := by subst hK; exact call_list_of
theorem kCv {X : Cx} (K : PySem.W.Frag) (hK : X.K = K) {e : Expr} {ta : TE} {f : Str} {pos : Pos} (he : PE X e ta) (hb : attributeBase e f X.env (eval e X.env) = eval e X.env := by rfl) : PE X (.Attribute e f pos) (ClX.tCVal K ta f) := by subst hK; exact ClX.pe_cval he hb
theorem kCon {X : Cx} (K : PySem.W.Frag) (hK : X.K = K) {e : Expr} {ta : TE} {f : Str} {pos : Pos} (he : PE X e ta) (hb : attributeBase e f X.env (eval e X.env) = eval e X.env := by rfl) : PE X (.Attribute e f pos) (tCon K ta f) := by subst hK; exact pe_con he hb
/-- what isinstance asks of an own class -/
structure IsaC (K : PySem.W.Frag) (C : Addr) : Prop where
  cl : Cls K C
  ha : PySem.W.findIn K (.ref C) "__class__" = some (some (.builtin "object.__class__"))
  hn : PySem.W.specialIn K (.builtin "object.__class__") "__get__" = some (some (.builtin "getset_descriptor.__get__"))
  htk : PySem.W.takesIn K (.builtin "object.__class__") = some true
  hm : PySem.W.mroIn K C (.type "object") = some true
theorem IsaC.ty {K : PySem.W.Frag} {C a dx : Addr} {fs : List (Str × V)} {H : Hp} (i : IsaC K C) (h : H a = some (.ins C dx fs)) : TyX K H (.ref a) (.ref C) := .base (.ins h i.cl i.ha i.hn i.htk i.hm)
theorem kit_self {K : PySem.W.Frag} {C : Addr} : PySem.W.kitOne K (.ref C) (.ref C) = some true := by
  unfold PySem.W.kitOne
  simp
def spStandings (C : Addr) : Sp := fun vs H Q _ => ∃ (v : V) (t : Stn) (A : List Addr), vs = [v] ∧ StnA C H v t ∧ t.stgs.length ≤ 100 ∧ (∀ a ∈ A, H a ≠ none) ∧ ∀ H' p ws, Same H H' → p ∉ A → H' p = some (.lst ws) → Paired (ToldX (p :: A) H') ws t.stgs → Q (.ref p) H'
def StEq (C : Addr) (a b : Addr) (H : Hp) : Prop := ∃ t, StnA C H (.ref a) t ∧ StnA C H (.ref b) t ∧ t.ok
theorem StEq.mon {C a b : Addr} {H H' : Hp} (e : Ext H H') (h : StEq C a b H) : StEq C a b H' := by
  obtain ⟨t, h1, h2, h3⟩ := h
  exact ⟨t, h1.but2 (fun b o _ _ q => e b o q), h2.but2 (fun b o _ _ q => e b o q), h3⟩
theorem eqv_dec {d : PyData} (h : d.canLay0 = true) : PyData.eqv d d = true := SeqAt.eqv_refl d h
section
variable {P : Program} {w : World} {K : PySem.W.Frag} {mg : Str → Option Value} {base : Heap} {aS a1 a2 aL aT : Addr} {f : Addr} {fd : FuncData} {C CD : Addr}
abbrev s_Station_standings : Stmt := inClass (top 25) 3
abbrev N_Station_standings : List Str := ["self", "reads", "rows"]
theorem sc_Station_standings : FnScope N_Station_standings ["self"] (defScope s_Station_standings) := ⟨rfl, rfl, rfl, by decide +kernel, rfl, by decide +kernel, by decide +kernel⟩
theorem ok_Station_standings (F : Fun K "standings" "Station.standings" s_Station_standings f fd) (T : Txt K mg aS a1 a2) (S : StC K mg C) : FnOk P w K mg base CX0 1 f fd ["self"] (spStandings C) := by
  refine F.ok sc_Station_standings (fun vs H Q E h => ?_) (fun cdv A outer s H vs Q E hr h => ?_)
  · obtain ⟨v, t, A', rfl, _⟩ := h
    rfl
  obtain ⟨v, t, A', rfl, ⟨a, dx, p, ps, rfl, ha, hp, pr⟩, hm, hA, q⟩ := h
  refine ⟨_, (pss_one (ps_ret (pe_lc (own := [("reads", 1), ("rows", 2)]) rfl sc_Station_standings.nd (kTup K rfl (kFld K rfl (pv 0))) (blkOk_by (N := N_Station_standings) (sc := defScope s_Station_standings) (by decide +kernel)) (fun _ _ _ _ _ => (kTupG (n := 2) K rfl rfl (pgs_cons (pg_name (i := 1) sc_Station_standings.nd rfl (Or.inl rfl)) (pgs_cons (pg_name (i := 2) sc_Station_standings.nd rfl (Or.inl rfl)) pgs_nil)))) (fun _ _ _ _ _ => pts_nil) (fun _ _ _ _ _ => (pe_tup (pa_cons (pv 1) (pa_cons (pe_callTy (kListOf K rfl) rfl T.b_list bt_list (pa_cons (pv 2) pa_nil)) pa_nil))))))), ?_⟩
  have hwl := paired_len pr
  refine ⟨_, rfl, a, C, dx, _, _, rfl, ha, S.cl, S.nS, rfl, _, rfl, ⟨_, SqT.of hp⟩, fun D hD => lc_it walk_tup (fun i H' => Same H H' ∧ ∃ us, H' D = some (.lst us) ∧ Paired (ToldX (D :: A') H') us (t.stgs.take i)) ⟨same_new hD _, [], upd_same, .nil⟩ (fun i H' _ z => SqT.of (z.1 _ _ hp)) ?_ ?_⟩
  · rintro i x H1 H2 hi ⟨sm, us, hd, pu⟩ ⟨rfl, hx⟩
    obtain ⟨sg, hsg, hxs⟩ := paired_get pr hx
    obtain ⟨b, l, rs, rfl, hb, hl, prs⟩ := hxs.keep (Tups.of sm)
    have hlu := paired_len pu
    have hil := lt_len hsg
    refine ⟨_, _, rfl, SqT.of hb, rfl, _, _, rfl, _, _, rfl, rfl, rfl, tyI ⟨_, rfl, _, rfl, _, _, rfl, .inr (SqT.of hl), fun p1 hp1 => ⟨sz rfl, fun p2 hp2 => ?_⟩⟩⟩
    have k1 := same_new hp1 (.lst rs)
    have k2 := same_new hp2 (.tup [.str sg.reads.s, .ref p1])
    have hd2 := k2 _ _ (k1 _ _ hd)
    have n1 : p1 ≠ D := fun z => by rw [z, hd] at hp1; cases hp1
    have nA : p1 ∉ A' := fun m => by
      cases e' : H p1 with
      | none => exact hA p1 m e'
      | some o => rw [sm _ _ e'] at hp1; cases hp1
    have kl : KL (D :: A') H2 (upd (upd (upd H2 p1 (.lst rs)) p2 (.tup [.str sg.reads.s, .ref p1])) D (.lst (us ++ [.ref p2]))) := (KL.of (k1.trans' k2)).trans (KL.at hd2 (by simp))
    refine ⟨_, hd2, ?_, same_at ((sm.trans' k1).trans' k2) hD, us ++ [.ref p2], upd_same, ?_⟩
    · rw [List.length_take] at hlu
      exact Nat.lt_of_lt_of_le (show us.length < 100000 by omega) (by decide)
    · rw [List.take_succ, hsg]
      refine paired_app (toldX_all kl pu) (.cons ⟨p2, p1, rs, rfl, tups_at hd2 _ _ upd_same, by simp [n1, nA], ?_, rwA_all kl.tups prs⟩ .nil)
      rw [upd_ne n1]
      exact k2 _ _ upd_same
  · rintro H1 ⟨sm, us, hd, pu⟩
    rw [hwl, List.take_of_length_le (Nat.le_refl _)] at pu
    exact q _ D _ sm (fun m => hA D m hD) hd pu
abbrev s_Station___eq__ : Stmt := inClass (top 25) 7
abbrev N_Station___eq__ : List Str := ["self", "other"]
theorem sc_Station___eq__ : FnScope N_Station___eq__ ["self", "other"] (defScope s_Station___eq__) := ⟨rfl, rfl, rfl, by decide +kernel, rfl, by decide +kernel, by decide +kernel⟩
theorem ok_Station_eq (F : Fun K "__eq__" "Station.__eq__" s_Station___eq__ f fd) (T : Txt K mg aS a1 a2) (S : StC K mg C) (I : IsaC K C) : FnOk P w K mg base CX0 1 f fd ["self", "other"] (spEq (StEq C)) := by
  refine F.ok sc_Station___eq__ (fun vs H Q E h => ?_) (fun cdv A outer s H vs Q E hr h => ?_)
  · obtain ⟨a, b, rfl, _⟩ := h
    rfl
  obtain ⟨x, y, rfl, ⟨t, ⟨a, dx, p, ps, ea, ha, hp, pr⟩, ⟨b, dy, p', ps', eb, hb, hp', pr'⟩, tok⟩, q⟩ := h
  cases ea
  cases eb
  refine ⟨_, (pss_cons (ps_if (PW.pt (pw_or (pt_not (pt_val (pe_callB (kIsi K rfl) rfl T.b_isinstance bt_isinstance (pa_cons (pv 1) (pa_cons (C8.pe_gc rfl S.g_Station) pa_nil))))) (pw_or (pt_cmpR op_ne (kFld K rfl (pv 0)) (kFld K rfl (pv 1)) (nomark _)) (pw_or1 (pt_cmpR op_ne (kFld K rfl (pv 0)) (kFld K rfl (pv 1)) (nomark _))))))
        (pss_one (ps_ret pe_bl))
        pss_nil)
        (pss_one (ps_ret (pe_cmpR (kEqD K rfl hr.units) (kFld K rfl (pv 0)) (kFld K rfl (pv 1)) (nomark _))))), ?_⟩
  refine ⟨_, rfl, _, _, _, _, _, rfl, .own C, I.ty hb, kit_self, _, rfl, iteF ?_⟩
  refine ⟨_, rfl, _, C, dx, _, _, rfl, ha, S.cl, S.nI, rfl, _, rfl, _, C, dy, _, _, rfl, hb, S.cl, S.nI, rfl, rfl, _, rfl, iteFd (by simp) ?_⟩
  refine ⟨_, rfl, _, C, dx, _, _, rfl, ha, S.cl, S.nO, rfl, _, rfl, _, C, dy, _, _, rfl, hb, S.cl, S.nO, rfl, rfl, _, rfl, iteFd (by simp) ?_⟩
  have ns := (sgs_nice tok)
  refine ⟨_, rfl, _, C, dx, _, _, rfl, ha, S.cl, S.nS, rfl, _, rfl, _, C, dy, _, _, rfl, hb, S.cl, S.nS, rfl, _, _, .tup (SqT.of hp) (dpall (fun _ _ r => r.dp) pr), .tup (SqT.of hp') (dpall (fun _ _ r => r.dp) pr'), ns.shp (by decide), ns.shp (by decide), ?_⟩
  rw [eqv_dec ns.lay]
  exact q _ Ext.rfl'
end
end FY


set_option Elab.async false
set_option linter.all false
set_option maxRecDepth 100000
set_option maxHeartbeats 8000000
namespace FY
open PySem L2 FYR
/-! ## what a station tells of itself -/
def spInsS (C : Addr) : Sp := fun vs H Q _ => ∃ (v : V) (t : Stn), vs = [v] ∧ StnA C H v t ∧ Q (.int (t.ins : Nat)) H
def spOutsS (C : Addr) : Sp := fun vs H Q _ => ∃ (v : V) (t : Stn), vs = [v] ∧ StnA C H v t ∧ Q (.int (t.outs : Nat)) H
theorem none_ofS {H H' : Hp} (s : Same H H') {a : Addr} (h : H' a = none) : H a = none := by
  cases e : H a with
  | none => rfl
  | some o => rw [s _ _ e] at h; cases h
/-- a standing whose list of rows was not there before -/
def ToldF (H0 : Hp) (p : Addr) (H : Hp) (v : V) (s : Sg) : Prop := ∃ a q ws, v = .ref a ∧ H a = some (.tup [.str s.reads.s, .ref q]) ∧ H0 q = none ∧ q ≠ p ∧ H q = some (.lst ws) ∧ Paired (RwA H) ws s.rows
def spStandF (C : Addr) : Sp := fun vs H Q _ => ∃ (v : V) (t : Stn), vs = [v] ∧ StnA C H v t ∧ t.stgs.length ≤ 100 ∧ ∀ H' p ws, Same H H' → H p = none → H' p = some (.lst ws) → Paired (ToldF H p H') ws t.stgs → Q (.ref p) H'
theorem ToldF.kp {H0 : Hp} {p : Addr} {H H' : Hp} (k : Kp p H H') (hp : ∀ xs, H p ≠ some (.tup xs)) {v : V} {s : Sg} (h : ToldF H0 p H v s) : ToldF H0 p H' v s := by
  obtain ⟨a, q, ws, e, h1, h2, h3, h4, pr⟩ := h
  have tu : Tups H H' := fun b xs e => k _ _ (fun z => hp xs (z ▸ e)) e
  exact ⟨a, q, ws, e, tu _ _ h1, h2, h3, k _ _ h3 h4, rwA_all tu pr⟩
theorem toldF_all {H0 : Hp} {p : Addr} {H H' : Hp} (k : Kp p H H') (hp : ∀ xs, H p ≠ some (.tup xs)) : ∀ {vs : List V} {ss : List Sg}, Paired (ToldF H0 p H) vs ss → Paired (ToldF H0 p H') vs ss
  | _, _, .nil => .nil
  | _, _, .cons a b => .cons (a.kp k hp) (toldF_all k hp b)
theorem tvall_str {p : Addr} {H : Hp} : ∀ gs : List (List Bool), TvAll p H (gs.map fun b => V.str (tx b)) (gs.map fun b => PyData.str (tx b))
  | [] => .nil
  | _ :: gs => .cons (.str _) (tvall_str gs)
theorem RwA.tv {p : Addr} {H : Hp} {v : V} {r : Rw} (hp : ∀ xs, H p ≠ some (.tup xs)) (h : RwA H v r) : Tv p H v (rwD r) := by
  obtain ⟨a, g, rfl, h1, h2⟩ := h
  exact .tup (fun z => hp _ (z ▸ h1)) h1 (.cons (.tup (fun z => hp _ (z ▸ h2)) h2 (tvall_str _)) (.cons (.int _) (.cons (.int _) .nil)))
theorem rwA_tvAll {p : Addr} {H : Hp} (hp : ∀ xs, H p ≠ some (.tup xs)) : ∀ {vs : List V} {rs : List Rw}, Paired (RwA H) vs rs → TvAll p H vs (rs.map rwD)
  | _, _, .nil => .nil
  | _, _, .cons a b => .cons (a.tv hp) (rwA_tvAll hp b)
theorem ToldF.tv {H0 : Hp} {L p : Addr} {H : Hp} {v : V} {s : Sg} (hp : ∀ xs, H p ≠ some (.tup xs)) (h0 : H0 p ≠ none) (h : ToldF H0 L H v s) : Tv p H v (toD s) := by
  obtain ⟨a, q, ws, rfl, h1, h2, h3, h4, pr⟩ := h
  exact .tup (fun z => hp _ (z ▸ h1)) h1 (.cons (.str _) (.cons (.lst (fun z => h0 (z ▸ h2)) h4 (rwA_tvAll hp pr)) .nil))
theorem toldF_tv {H0 : Hp} {L p : Addr} {H : Hp} (hp : ∀ xs, H p ≠ some (.tup xs)) (h0 : H0 p ≠ none) : ∀ {vs : List V} {ss : List Sg}, Paired (ToldF H0 L H) vs ss → TvAll p H vs (ss.map toD)
  | _, _, .nil => .nil
  | _, _, .cons a b => .cons (a.tv hp h0) (toldF_tv hp h0 b)
/-- whether two stations are one -/
def stnE (t t' : Stn) : Bool := decide (t.ins = t'.ins) && decide (t.outs = t'.outs) && PyData.eqv (.tuple (t.stgs.map sgD)) (.tuple (t'.stgs.map sgD))
def spEqS (C : Addr) : Sp := fun vs H Q _ => ∃ (v u : V) (t : Stn), vs = [v, u] ∧ StnA C H v t ∧ t.ok ∧ ((∃ t', StnA C H u t' ∧ t'.ok ∧ Q (.bl (stnE t t')) H) ∨ ∃ s, u = .str s ∧ Q (.bl false) H)
section
variable {P : Program} {w : World} {K : PySem.W.Frag} {mg : Str → Option Value} {base : Heap} {aS a1 a2 aL aT : Addr} {f : Addr} {fd : FuncData} {C CD : Addr}
abbrev s_Station_ins : Stmt := inClass (top 25) 1
abbrev N_Station_ins : List Str := ["self"]
theorem sc_Station_ins : FnScope N_Station_ins ["self"] (defScope s_Station_ins) := ⟨rfl, rfl, rfl, by decide +kernel, rfl, by decide +kernel, by decide +kernel⟩
theorem ok_Station_insS (F : Fun K "ins" "Station.ins" s_Station_ins f fd) (S : StC K mg C) : FnOk P w K mg base CX0 1 f fd ["self"] (spInsS C) := by
  refine F.ok sc_Station_ins (fun vs H Q E h => ?_) (fun cdv A outer s H vs Q E hr h => ?_)
  · obtain ⟨b, t, rfl, _⟩ := h
    rfl
  obtain ⟨v, t, rfl, ⟨a, dx, p, ps, rfl, ha, hp, pr⟩, q⟩ := h
  refine ⟨_, (pss_one (ps_ret (kFld K rfl (pv 0)))), ?_⟩
  exact ⟨_, rfl, a, C, dx, _, _, rfl, ha, S.cl, S.nI, rfl, q⟩
abbrev s_Station_outs : Stmt := inClass (top 25) 2
abbrev N_Station_outs : List Str := ["self"]
theorem sc_Station_outs : FnScope N_Station_outs ["self"] (defScope s_Station_outs) := ⟨rfl, rfl, rfl, by decide +kernel, rfl, by decide +kernel, by decide +kernel⟩
theorem ok_Station_outsS (F : Fun K "outs" "Station.outs" s_Station_outs f fd) (S : StC K mg C) : FnOk P w K mg base CX0 1 f fd ["self"] (spOutsS C) := by
  refine F.ok sc_Station_outs (fun vs H Q E h => ?_) (fun cdv A outer s H vs Q E hr h => ?_)
  · obtain ⟨b, t, rfl, _⟩ := h
    rfl
  obtain ⟨v, t, rfl, ⟨a, dx, p, ps, rfl, ha, hp, pr⟩, q⟩ := h
  refine ⟨_, (pss_one (ps_ret (kFld K rfl (pv 0)))), ?_⟩
  exact ⟨_, rfl, a, C, dx, _, _, rfl, ha, S.cl, S.nO, rfl, q⟩
theorem ok_Station_standingsF (F : Fun K "standings" "Station.standings" s_Station_standings f fd) (T : Txt K mg aS a1 a2) (S : StC K mg C) : FnOk P w K mg base CX0 1 f fd ["self"] (spStandF C) := by
  refine F.ok sc_Station_standings (fun vs H Q E h => ?_) (fun cdv A outer s H vs Q E hr h => ?_)
  · obtain ⟨v, t, rfl, _⟩ := h
    rfl
  obtain ⟨v, t, rfl, ⟨a, dx, p, ps, rfl, ha, hp, pr⟩, hm, q⟩ := h
  refine ⟨_, (pss_one (ps_ret (pe_lc (own := [("reads", 1), ("rows", 2)]) rfl sc_Station_standings.nd (kTup K rfl (kFld K rfl (pv 0))) (blkOk_by (N := N_Station_standings) (sc := defScope s_Station_standings) (by decide +kernel)) (fun _ _ _ _ _ => (kTupG (n := 2) K rfl rfl (pgs_cons (pg_name (i := 1) sc_Station_standings.nd rfl (Or.inl rfl)) (pgs_cons (pg_name (i := 2) sc_Station_standings.nd rfl (Or.inl rfl)) pgs_nil)))) (fun _ _ _ _ _ => pts_nil) (fun _ _ _ _ _ => (pe_tup (pa_cons (pv 1) (pa_cons (pe_callTy (kListOf K rfl) rfl T.b_list bt_list (pa_cons (pv 2) pa_nil)) pa_nil))))))), ?_⟩
  have hwl := paired_len pr
  refine ⟨_, rfl, a, C, dx, _, _, rfl, ha, S.cl, S.nS, rfl, _, rfl, ⟨_, SqT.of hp⟩, fun D hD => lc_it walk_tup (fun i H' => Same H H' ∧ ∃ us, H' D = some (.lst us) ∧ Paired (ToldF H D H') us (t.stgs.take i)) ⟨same_new hD _, [], upd_same, .nil⟩ (fun i H' _ z => SqT.of (z.1 _ _ hp)) ?_ ?_⟩
  · rintro i x H1 H2 hi ⟨sm, us, hd, pu⟩ ⟨rfl, hx⟩
    obtain ⟨sg, hsg, hxs⟩ := paired_get pr hx
    obtain ⟨b, l, rs, rfl, hb, hl, prs⟩ := hxs.keep (Tups.of sm)
    have hlu := paired_len pu
    have hil := lt_len hsg
    refine ⟨_, _, rfl, SqT.of hb, rfl, _, _, rfl, _, _, rfl, rfl, rfl, tyI ⟨_, rfl, _, rfl, _, _, rfl, .inr (SqT.of hl), fun p1 hp1 => ⟨sz rfl, fun p2 hp2 => ?_⟩⟩⟩
    have k1 := same_new hp1 (.lst rs)
    have k2 := same_new hp2 (.tup [.str sg.reads.s, .ref p1])
    have hd2 := k2 _ _ (k1 _ _ hd)
    have n1 : p1 ≠ D := fun z => by rw [z, hd] at hp1; cases hp1
    have kk : Kp D H2 (upd (upd (upd H2 p1 (.lst rs)) p2 (.tup [.str sg.reads.s, .ref p1])) D (.lst (us ++ [.ref p2]))) := fun b o n e => by
      rw [upd_ne n]; exact k2 _ _ (k1 _ _ e)
    have tu : Tups H2 (upd (upd (upd H2 p1 (.lst rs)) p2 (.tup [.str sg.reads.s, .ref p1])) D (.lst (us ++ [.ref p2]))) := (Tups.of (k1.trans' k2)).trans (tups_at hd2)
    have nt : ∀ xs, H2 D ≠ some (.tup xs) := fun xs e => by rw [hd] at e; cases e
    refine ⟨_, hd2, ?_, same_at ((sm.trans' k1).trans' k2) hD, us ++ [.ref p2], upd_same, ?_⟩
    · rw [List.length_take] at hlu
      exact Nat.lt_of_lt_of_le (show us.length < 100000 by omega) (by decide)
    · rw [List.take_succ, hsg]
      refine paired_app (toldF_all kk nt pu) (.cons ⟨p2, p1, rs, rfl, tups_at hd2 _ _ upd_same, none_ofS sm hp1, n1, ?_, rwA_all tu prs⟩ .nil)
      rw [upd_ne n1]
      exact k2 _ _ upd_same
  · rintro H1 ⟨sm, us, hd, pu⟩
    rw [hwl, List.take_of_length_le (Nat.le_refl _)] at pu
    exact q _ D _ sm hD hd pu
abbrev s_Station___len__ : Stmt := inClass (top 25) 6
abbrev N_Station___len__ : List Str := ["self"]
theorem sc_Station___len__ : FnScope N_Station___len__ ["self"] (defScope s_Station___len__) := ⟨rfl, rfl, rfl, by decide +kernel, rfl, by decide +kernel, by decide +kernel⟩
theorem ok_Station_lenS (F : Fun K "__len__" "Station.__len__" s_Station___len__ f fd) (T : Txt K mg aS a1 a2) (S : StC K mg C) : FnOk P w K mg base CX0 1 f fd ["self"] (spStLen C) := by
  refine F.ok sc_Station___len__ (fun vs H Q E h => ?_) (fun cdv A outer s H vs Q E hr h => ?_)
  · obtain ⟨v, t, rfl, _⟩ := h
    rfl
  obtain ⟨v, t, rfl, ⟨a, dx, p, ps, rfl, ha, hp, pr⟩, q⟩ := h
  refine ⟨_, (pss_one (ps_ret (pe_callB (kLen K rfl) rfl T.b_len bt_len (pa_cons (kFld K rfl (pv 0)) pa_nil)))), ?_⟩
  have e := paired_len pr
  rw [← e] at q
  exact ⟨_, rfl, a, C, dx, _, _, rfl, ha, S.cl, S.nS, rfl, p, ps, rfl, .inr (SqT.of hp), q⟩
theorem ok_Station_eqS (F : Fun K "__eq__" "Station.__eq__" s_Station___eq__ f fd) (T : Txt K mg aS a1 a2) (S : StC K mg C) (I : IsaC K C) (kS : PySem.W.kitOne K (.type "str") (.ref C) = some false) : FnOk P w K mg base CX0 1 f fd ["self", "other"] (spEqS C) := by
  refine F.ok sc_Station___eq__ (fun vs H Q E h => ?_) (fun cdv A outer s H vs Q E hr h => ?_)
  · obtain ⟨a, b, t, rfl, _⟩ := h
    rfl
  obtain ⟨v, u, t, rfl, ⟨a, dx, p, ps, rfl, ha, hp, pr⟩, tok, q⟩ := h
  refine ⟨_, (pss_cons (ps_if (PW.pt (pw_or (pt_not (pt_val (pe_callB (kIsi K rfl) rfl T.b_isinstance bt_isinstance (pa_cons (pv 1) (pa_cons (C8.pe_gc rfl S.g_Station) pa_nil))))) (pw_or (pt_cmpR op_ne (kFld K rfl (pv 0)) (kFld K rfl (pv 1)) (nomark _)) (pw_or1 (pt_cmpR op_ne (kFld K rfl (pv 0)) (kFld K rfl (pv 1)) (nomark _))))))
        (pss_one (ps_ret pe_bl))
        pss_nil)
        (pss_one (ps_ret (pe_cmpR (kEqD K rfl hr.units) (kFld K rfl (pv 0)) (kFld K rfl (pv 1)) (nomark _))))), ?_⟩
  rcases q with ⟨t', ⟨b, dy, p', ps', rfl, hb, hp', pr'⟩, tok', q⟩ | ⟨z, rfl, q⟩
  · refine ⟨_, rfl, _, _, _, _, _, rfl, .own C, I.ty hb, kit_self, _, rfl, iteF ?_⟩
    have eq : stnE t t' = (decide (t.ins = t'.ins) && decide (t.outs = t'.outs) && PyData.eqv (.tuple (t.stgs.map sgD)) (.tuple (t'.stgs.map sgD))) := rfl
    rw [eq] at q
    have di : ∀ x y : Nat, decide (V.int (x : Nat) = V.int (y : Nat)) = decide (x = y) := fun x y => decide_eq_decide.mpr ⟨fun e => by have := V.int.inj e; omega, fun e => by rw [e]⟩
    refine ⟨_, rfl, _, C, dx, _, _, rfl, ha, S.cl, S.nI, rfl, _, rfl, _, C, dy, _, _, rfl, hb, S.cl, S.nI, rfl, rfl, _, rfl, ?_⟩
    by_cases e1 : t.ins = t'.ins
    case neg =>
      rw [decide_eq_false e1, Bool.false_and, Bool.false_and] at q
      exact iteTd (by rw [di, decide_eq_false e1]; rfl) q
    refine iteFd (by rw [di, decide_eq_true e1]; rfl) ?_
    rw [decide_eq_true e1, Bool.true_and] at q
    refine ⟨_, rfl, _, C, dx, _, _, rfl, ha, S.cl, S.nO, rfl, _, rfl, _, C, dy, _, _, rfl, hb, S.cl, S.nO, rfl, rfl, _, rfl, ?_⟩
    by_cases e2 : t.outs = t'.outs
    case neg =>
      rw [decide_eq_false e2, Bool.false_and] at q
      exact iteTd (by rw [di, decide_eq_false e2]; rfl) q
    refine iteFd (by rw [di, decide_eq_true e2]; rfl) ?_
    rw [decide_eq_true e2, Bool.true_and] at q
    have ns := sgs_nice tok
    have ns' := sgs_nice tok'
    exact ⟨_, rfl, _, C, dx, _, _, rfl, ha, S.cl, S.nS, rfl, _, rfl, _, C, dy, _, _, rfl, hb, S.cl, S.nS, rfl, _, _, .tup (SqT.of hp) (dpall (fun _ _ r => r.dp) pr), .tup (SqT.of hp') (dpall (fun _ _ r => r.dp) pr'), ns.shp (by decide), ns'.shp (by decide), q⟩
  · exact ⟨_, rfl, _, _, _, _, _, rfl, .own C, .base (.str z), kS, _, rfl, iteT q⟩
end
end FY


set_option Elab.async false
set_option linter.all false
set_option maxRecDepth 100000
set_option maxHeartbeats 8000000
namespace FY
open PySem L2 FYR
/-! ## the law draws stations -/
def tV (bs : List (List Bool)) : List V := bs.map fun b => V.str (tx b)
theorem tV_len (bs : List (List Bool)) : (tV bs).length = bs.length := by unfold tV; rw [List.length_map]
theorem g7 {x : V} (h : x ∈ [V.str "", V.str "0", V.str "1", V.str "00", V.str "01", V.str "10", V.str "11"]) : ∃ b : List Bool, x = .str (tx b) ∧ b.length ≤ 2 := by
  simp only [List.mem_cons, List.not_mem_nil, or_false] at h
  rcases h with h | h | h | h | h | h | h
  · exact ⟨[], by rw [h]; exact congrArg V.str (by decide +kernel), by decide⟩
  · exact ⟨[false], by rw [h]; exact congrArg V.str (by decide +kernel), by decide⟩
  · exact ⟨[true], by rw [h]; exact congrArg V.str (by decide +kernel), by decide⟩
  · exact ⟨[false, false], by rw [h]; exact congrArg V.str (by decide +kernel), by decide⟩
  · exact ⟨[false, true], by rw [h]; exact congrArg V.str (by decide +kernel), by decide⟩
  · exact ⟨[true, false], by rw [h]; exact congrArg V.str (by decide +kernel), by decide⟩
  · exact ⟨[true, true], by rw [h]; exact congrArg V.str (by decide +kernel), by decide⟩
def spText7 : Sp := fun vs H Q _ => ∃ p : Addr, vs = [.ref p] ∧ Pot p H ∧ ∀ (b : List Bool) (H' : Hp), b.length ≤ 2 → Kp p H H' → Pot p H' → Q (.str (tx b)) H'
def spRowM : Sp := fun vs H Q _ => ∃ (p : Addr) (outs many : Nat), vs = [.ref p, .int (outs : Nat), .int (many : Nat)] ∧ Pot p H ∧ outs ≤ 2 ∧ 1 ≤ many ∧ many ≤ 4 ∧ ∀ (v : V) (r : Rw) (H' : Hp), RwA H' v r → r.ok outs many → Kp p H H' → Pot p H' → Q v H'
theorem kl_kp {A : List Addr} {p : Addr} {H H' : Hp} (po : Pot p H) (k : Kp p H H') (hp : p ∈ A) : KL A H H' := fun b o _ n e => by
  by_cases z : b = p
  · subst z
    obtain ⟨c, d, h, _⟩ := po
    rw [h] at e
    exact absurd (Option.some.inj e).symm (n hp _)
  · exact k b o z e
theorem kp_nn {A : List Addr} {p : Addr} {H H' : Hp} (po : Pot p H') (k : Kp p H H') (h : ∀ a ∈ A, H a ≠ none) : ∀ a ∈ A, H' a ≠ none := fun a ha z => by
  by_cases e : a = p
  · subst e
    obtain ⟨c, d, h, _⟩ := po
    rw [h] at z
    cases z
  · cases y : H a with
    | none => exact h a ha y
    | some o => rw [k a o e y] at z; cases z
theorem same_nn {A : List Addr} {H H' : Hp} (s : Same H H') (h : ∀ a ∈ A, H a ≠ none) : ∀ a ∈ A, H' a ≠ none := fun a ha z => by
  cases y : H a with
  | none => exact h a ha y
  | some o => rw [s _ _ y] at z; cases z
theorem upd_nn {A : List Addr} {H : Hp} {L : Addr} {o : HO} (h : ∀ a ∈ A, H a ≠ none) : ∀ a ∈ A, upd H L o a ≠ none := fun a ha z => by
  by_cases e : a = L
  · subst e; rw [upd_same] at z; cases z
  · rw [upd_ne e] at z; exact h a ha z
theorem pk3 {x : V} (h : x ∈ [V.str "1", V.str "2", V.str "12"]) : ∃ r : Rd, x = .str r.s := by
  simp only [List.mem_cons, List.not_mem_nil, or_false] at h
  rcases h with h | h | h
  · exact ⟨.one, h⟩
  · exact ⟨.two, h⟩
  · exact ⟨.both, h⟩
theorem rd_many (r : Rd) : 2 * r.s.length = r.many := by cases r <;> decide +kernel
theorem rd_len (r : Rd) : r.s.length ≤ 2 := by cases r <;> decide +kernel
theorem toldX_tv {A : List Addr} {p : Addr} (pA : p ∈ A) {H : Hp} (hp : ∀ xs, H p ≠ some (.tup xs)) : ∀ {vs : List V} {ss : List Sg}, Paired (ToldX A H) vs ss → TvAll p H vs (ss.map toD)
  | _, _, .nil => .nil
  | _, _, .cons ⟨a, q, ws, e, h1, h2, h3, pr⟩ b => by
    subst e
    exact .cons (.tup (fun z => hp _ (z ▸ h1)) h1 (.cons (.str _) (.cons (.lst (fun z => h2 (z ▸ pA)) h3 (rwA_tvAll hp pr)) .nil))) (toldX_tv pA hp b)
/-- the drawn station, as data beside any of the lists of A -/
theorem DatA.tv {A : List Addr} {p : Addr} (pA : p ∈ A) {H : Hp} (hp : ∀ xs, H p ≠ some (.tup xs)) {v : V} {t : Stn} (h : DatA A H v t) : Tv p H v (stD t) := by
  obtain ⟨a, L, ws, rfl, h1, h2, h3, pr⟩ := h
  exact .tup (fun z => hp _ (z ▸ h1)) h1 (.cons (.int _) (.cons (.int _) (.cons (.lst (fun z => h2 (z ▸ pA)) h3 (toldX_tv pA hp pr)) .nil)))
theorem Pot.nt {p : Addr} {H : Hp} (h : Pot p H) : ∀ xs, H p ≠ some (.tup xs) := fun xs e => by
  obtain ⟨a, b, h, _⟩ := h
  rw [h] at e
  cases e
def spModel : Sp := fun vs H Q _ => ∃ (p : Addr), vs = [.ref p] ∧ Pot p H ∧ ∀ (v : V) (t : Stn) (H' : Hp), t.ok → Tv p H' v (stD t) → Kp p H H' → Pot p H' → Q v H'
section
variable {P : Program} {w : World} {K : PySem.W.Frag} {mg : Str → Option Value} {base : Heap} {aS a1 a2 aL aT : Addr} {f : Addr} {fd : FuncData} {C CD CY : Addr} {mc : Value}
abbrev s_law_text : Stmt := top 31
abbrev N_law_text : List Str := ["_law_pot_here"]
theorem sc_law_text : FnScope N_law_text ["_law_pot_here"] (defScope s_law_text) := ⟨rfl, rfl, rfl, by decide +kernel, rfl, by decide +kernel, by decide +kernel⟩
theorem ok_law_text (F : Fun K "_law_text" "_law_text" s_law_text f fd) (T : Txt K mg aS a1 a2) (c__law_pick : C8.Cal P w K mg base 2 "_law_pick" spPick []) : FnOk P w K mg base CX0 3 f fd ["_law_pot_here"] spText7 := by
  refine F.ok sc_law_text (fun vs H Q E h => ?_) (fun cdv A outer s H vs Q E hr h => ?_)
  · obtain ⟨p, rfl, _⟩ := h
    rfl
  obtain ⟨p, rfl, p0, q⟩ := h
  refine ⟨_, (pss_one (ps_ret (C8.pe_c c__law_pick hr (by decide) rfl (pa_cons (pv 0) (pa_cons (pe_lst (pa_cons pe_str (pa_cons pe_str (pa_cons pe_str (pa_cons pe_str (pa_cons pe_str (pa_cons pe_str (pa_cons pe_str pa_nil)))))))) pa_nil))))), ?_⟩
  refine ⟨_, rfl, sz rfl, fun L hL => ⟨p, L, _, rfl, p0.same (same_new hL _), p0.ne hL, upd_same, by decide, by decide, fun y H8 hy k8 p8 => ?_⟩⟩
  obtain ⟨b, rfl, hb⟩ := g7 hy
  exact q b H8 hb ((kp_new hL _).trans k8) p8
abbrev s_law_row : Stmt := top 32
abbrev N_law_row : List Str := ["_law_pot_here", "_law_wide", "_law_many", "_law_line"]
theorem sc_law_row : FnScope N_law_row ["_law_pot_here", "_law_wide", "_law_many"] (defScope s_law_row) := ⟨rfl, rfl, rfl, by decide +kernel, rfl, by decide +kernel, by decide +kernel⟩
theorem ok_law_row (F : Fun K "_law_row" "_law_row" s_law_row f fd) (T : Txt K mg aS a1 a2) (c__law_draw : C8.Cal P w K mg base 1 "_law_draw" spDraw []) (c__law_text : C8.Cal P w K mg base 3 "_law_text" spText7 []) : FnOk P w K mg base CX0 4 f fd ["_law_pot_here", "_law_wide", "_law_many"] spRowM := by
  refine F.ok sc_law_row (fun vs H Q E h => ?_) (fun cdv A outer s H vs Q E hr h => ?_)
  · obtain ⟨p, o, m, rfl, _⟩ := h
    rfl
  obtain ⟨p, outs, many, rfl, p0, o2, m1, m4, q⟩ := h
  refine ⟨_, (pss_one (ps_ret (pe_tup (pa_cons (pe_callTy (kTupOf K rfl) rfl T.b_tuple bt_tuple (pa_cons (pe_lc (own := [("_law_line", 3)]) rfl sc_law_row.nd (pi_range1 rfl T.b_range (pa_cons (pv 1) pa_nil)) (blkOk_by (N := N_law_row) (sc := defScope s_law_row) (by decide +kernel)) (fun _ _ _ _ _ => (pg_name (i := 3) sc_law_row.nd rfl (Or.inl rfl))) (fun _ _ _ _ _ => pts_nil) (fun _ _ _ _ _ => (C8.pe_c c__law_text hr (by decide) rfl (pa_cons (pv 0) pa_nil)))) pa_nil)) (pa_cons (C8.pe_c c__law_draw hr (by decide) rfl (pa_cons (pv 0) (pa_cons (pv 2) pa_nil))) (pa_cons (pe_op op_add pe_int (C8.pe_c c__law_draw hr (by decide) rfl (pa_cons (pv 0) (pa_cons pe_int pa_nil)))) pa_nil)))))), ?_⟩
  refine ⟨_, rfl, outs, rfl, by omega, by omega, fun D hD => lc_it walk_range (fun i H' => ∃ bs : List (List Bool), bs.length = i ∧ (∀ b ∈ bs, b.length ≤ 2) ∧ H' D = some (.lst (tV bs)) ∧ Kp p H H' ∧ Pot p H') ⟨[], rfl, by simp, upd_same, kp_new hD _, p0.same (same_new hD _)⟩ (fun _ _ _ _ => trivial) ?_ ?_⟩
  · rintro i x H6 H7 hi ⟨bs, hbs, h2, hd, kk, pp⟩ ⟨rfl, rfl⟩
    refine ⟨rfl, tyI ⟨_, rfl, p, rfl, pp, fun b H8 hb k8 p8 => ?_⟩⟩
    refine ⟨_, k8 _ _ (p0.ne hD) hd, ?_, bs ++ [b], by simp [hbs], fun z hz => ?_, by rw [upd_same]; unfold tV; simp, kp_at (kk.trans k8) hD, pot_at p8 (p0.ne hD)⟩
    · rw [tV_len]
      exact Nat.lt_of_lt_of_le (show bs.length < 100000 by omega) (by decide)
    · rcases List.mem_append.mp hz with hz | hz
      · exact h2 z hz
      · rw [List.mem_singleton.mp hz]; exact hb
  · rintro H6 ⟨bs, hbs, h2, hd, kk, pp⟩
    refine ⟨_, _, rfl, .inl ⟨SqL.of hd, fun g hg => ?_⟩⟩
    have k7 := same_new hg (.tup (tV bs))
    refine ⟨_, rfl, _, rfl, p, _, rfl, pp.same k7, by omega, by omega, fun d H8 d0 d1 k8 p8 => ?_⟩
    refine ⟨_, rfl, p, _, rfl, p8, by decide, by decide, fun e H9 e0 e1 k9 p9 => ⟨_, _, rfl, rfl, sz rfl, fun a ha => ?_⟩⟩
    have ng := pp.ne hg
    have hg9 := k9 _ _ ng (k8 _ _ ng upd_same)
    have k10 := same_new ha (.tup [.ref g, .int d, .int (1 + e)])
    have ed : d = ((d.toNat : Nat) : Int) := (Int.toNat_of_nonneg d0).symm
    have ee : 1 + e = ((1 + e).toNat : Int) := (Int.toNat_of_nonneg (by omega)).symm
    refine q (.ref a) ⟨bs, d.toNat, (1 + e).toNat⟩ _ ⟨a, g, rfl, ?_, k10 _ _ hg9⟩ ⟨by show bs.length = outs; omega, h2, by show d.toNat < many; omega, by show 1 ≤ (1 + e).toNat; omega, by show (1 + e).toNat ≤ 9; omega⟩ (((kk.trans (Kp.of k7)).trans (k8.trans k9)).trans (Kp.of k10)) (p9.same k10)
    rw [upd_same]
    show some (HO.tup [.ref g, .int d, .int (1 + e)]) = some (HO.tup [.ref g, .int (d.toNat : Nat), .int ((1 + e).toNat : Nat)])
    rw [← ed, ← ee]
abbrev s_law_model : Stmt := top 33
abbrev N_law_model : List Str := ["_law_pot_here", "_law_near", "_law_far", "_law_many", "_law_found", "_law_at", "_law_told", "_law_turn"]
theorem sc_law_model : FnScope N_law_model ["_law_pot_here"] (defScope s_law_model) := ⟨rfl, rfl, rfl, by decide +kernel, rfl, by decide +kernel, by decide +kernel⟩
theorem ok_law_model (F : Fun K "_law_model" "_law_model" s_law_model f fd) (T : Txt K mg aS a1 a2) (c__law_draw : C8.Cal P w K mg base 1 "_law_draw" spDraw []) (c__law_pick : C8.Cal P w K mg base 2 "_law_pick" spPick []) (c__law_row : C8.Cal P w K mg base 4 "_law_row" spRowM []) : FnOk P w K mg base CX0 5 f fd ["_law_pot_here"] spModel := by
  refine F.ok sc_law_model (fun vs H Q E h => ?_) (fun cdv A outer s H vs Q E hr h => ?_)
  · obtain ⟨p, rfl, _⟩ := h
    rfl
  obtain ⟨p, rfl, p0, q⟩ := h
  refine ⟨_, (pss_cons (ps_asg (pe_tup (pa_cons (pe_op op_add pe_int (C8.pe_c c__law_draw hr (by decide) rfl (pa_cons (pv 0) (pa_cons pe_int pa_nil)))) (pa_cons (pe_op op_add pe_int (C8.pe_c c__law_draw hr (by decide) rfl (pa_cons (pv 0) (pa_cons pe_int pa_nil)))) (pa_cons (pe_op op_add pe_int (C8.pe_c c__law_draw hr (by decide) rfl (pa_cons (pv 0) (pa_cons pe_int pa_nil)))) pa_nil)))) (kTupG (n := 3) K rfl rfl (pgs_cons (pg_name (i := 1) sc_law_model.nd rfl (Or.inl rfl)) (pgs_cons (pg_name (i := 2) sc_law_model.nd rfl (Or.inr rfl)) (pgs_cons (pg_name (i := 3) sc_law_model.nd rfl (Or.inr rfl)) pgs_nil)))))
        (pss_cons (ps_set (i := 4) sc_law_model.nd rfl (Or.inl rfl) (pe_lst pa_nil))
        (pss_cons (ps_for PassesOwn.never rfl (pi_range1 rfl T.b_range (pa_cons (pv 3) pa_nil)) (pg_name (i := 5) sc_law_model.nd rfl (Or.inl rfl))
        (pss_cons (ps_set (i := 6) sc_law_model.nd rfl (Or.inl rfl) (pe_ifExp (pt_cmpR op_eq (pv 1) pe_int (nomark _)) pe_str (C8.pe_c c__law_pick hr (by decide) rfl (pa_cons (pv 0) (pa_cons (pe_lst (pa_cons pe_str (pa_cons pe_str (pa_cons pe_str pa_nil)))) pa_nil)))))
        (pss_one (ps_expr (kBm K rfl PySem.F.plainAttrs_list PySem.F.slot_list_append PySem.F.type_list_append mt_append (pv 4) (pa_cons (pe_tup (pa_cons (pv 6) (pa_cons (pe_lc (own := [("_law_turn", 7)]) rfl sc_law_model.nd (pi_range1 rfl T.b_range (pa_cons (pe_op op_mul pe_int (pe_callB call_len_str rfl T.b_len bt_len (pa_cons (pv 6) pa_nil))) pa_nil)) (blkOk_by (N := N_law_model) (sc := defScope s_law_model) (by decide +kernel)) (fun _ _ _ _ _ => (pg_name (i := 7) sc_law_model.nd rfl (Or.inl rfl))) (fun _ _ _ _ _ => pts_nil) (fun _ _ _ _ _ => (C8.pe_c c__law_row hr (by decide) rfl (pa_cons (pv 0) (pa_cons (pv 2) (pa_cons (pv 3) pa_nil)))))) pa_nil))) pa_nil))))))
        (pss_one (ps_ret (pe_tup (pa_cons (pv 1) (pa_cons (pv 2) (pa_cons (pv 4) pa_nil))))))))), ?_⟩
  refine ⟨_, rfl, p, _, rfl, p0, by decide, by decide, fun d H1 d0 d1 k1 p1 => ⟨_, _, rfl, rfl, ?_⟩⟩
  refine ⟨_, rfl, p, _, rfl, p1, by decide, by decide, fun e H2 e0 e1 k2 p2 => ⟨_, _, rfl, rfl, ?_⟩⟩
  refine ⟨_, rfl, p, _, rfl, p2, by decide, by decide, fun g H3 g0 g1 k3 p3 => ⟨_, _, rfl, rfl, sz rfl, fun T0 hT0 => ?_⟩⟩
  obtain ⟨ins, hin, i1, i2⟩ : ∃ n : Nat, 1 + d = (n : Int) ∧ 1 ≤ n ∧ n ≤ 2 := ⟨(1 + d).toNat, (Int.toNat_of_nonneg (by omega)).symm, by omega, by omega⟩
  obtain ⟨outs, hou, o1, o2⟩ : ∃ n : Nat, 1 + e = (n : Int) ∧ 1 ≤ n ∧ n ≤ 2 := ⟨(1 + e).toNat, (Int.toNat_of_nonneg (by omega)).symm, by omega, by omega⟩
  obtain ⟨many, hm, em1, em4⟩ : ∃ n : Nat, 1 + g = (n : Int) ∧ 1 ≤ n ∧ n ≤ 4 := ⟨(1 + g).toNat, (Int.toNat_of_nonneg (by omega)).symm, by omega, by omega⟩
  dsimp only
  rw [hin, hou, hm]
  have kT := same_new hT0 (.tup [.int (ins : Nat), .int (outs : Nat), .int (many : Nat)])
  refine ⟨_, _, rfl, SqT.of upd_same, rfl, _, _, rfl, _, _, rfl, _, _, rfl, rfl, ?_⟩
  refine ⟨sz rfl, fun L hL => ?_⟩
  have kL := same_new hL (.lst [])
  have p4 := p3.same kT
  have nL := p4.ne hL
  have nA : ∀ a ∈ [p], (upd H3 T0 (.tup [.int (ins : Nat), .int (outs : Nat), .int (many : Nat)])) a ≠ none := fun a ha => by
    rw [List.mem_singleton.mp ha]
    obtain ⟨x, y, h, _⟩ := p4
    rw [h]; simp
  have LA : L ∉ [p] := new_nin nA hL
  have nA2 : ∀ a ∈ [L, p], (upd (upd H3 T0 (.tup [.int (ins : Nat), .int (outs : Nat), .int (many : Nat)])) L (.lst [])) a ≠ none := fun a ha => by
    rcases List.mem_cons.mp ha with e | e
    · rw [e, upd_same]; simp
    · exact same_nn kL nA a e
  have pLA : p ∈ [L, p] := List.mem_cons_of_mem _ (List.mem_singleton.mpr rfl)
  have lLA : L ∈ [L, p] := List.mem_cons_self ..
  have k03 : Kp p H H3 := (k1.trans k2).trans k3
  refine ⟨_, rfl, many, rfl, by omega, by omega, for_it walk_range (fun i τ H' => ∃ (a b : Option V) (ws : List V) (sg : List Sg), τ = [some (.ref p), some (.int (ins : Nat)), some (.int (outs : Nat)), some (.int (many : Nat)), some (.ref L), a, b, none] ∧ sg.length = i ∧ (∀ s ∈ sg, s.ok ins outs many) ∧ Paired (ToldX [L, p] H') ws sg ∧ H' L = some (.lst ws) ∧ Kp p H3 H' ∧ Pot p H' ∧ ∀ a ∈ [L, p], H' a ≠ none) ⟨_, _, [], [], rfl, rfl, by simp, .nil, upd_same, Kp.of (kT.trans' kL), p4.same kL, nA2⟩ (fun _ _ _ _ _ => trivial) ?_ ?_⟩
  · rintro i x τ G1 G2 hi ⟨a, b, ws, sg, rfl, ls, sok, pw, hLw, kp, po, nn⟩ ⟨rfl, rfl⟩
    refine ⟨_, rfl, rfl, _, rfl, ?_⟩
    have lw := paired_len pw
    rcases Nat.decEq ins 1 with hin | hin
    -- two lines
    refine iteFd (by rw [dec_int]; exact decide_eq_false (by omega)) ⟨_, rfl, sz rfl, fun L3 hL3 => ⟨p, L3, _, rfl, po.same (same_new hL3 _), po.ne hL3, upd_same, by decide, by decide, fun y H6 hy k6' p6 => ?_⟩⟩
    obtain ⟨rd, rfl⟩ := pk3 hy
    have k6 : Kp p G2 H6 := (kp_new hL3 _).trans k6'
    have hrd : rd = .one ∨ ins = 2 := .inr (by omega)
    clear hy k6' hL3
    rotate_left
    -- one line
    refine iteTd (by rw [dec_int]; exact decide_eq_true (by omega)) ?_
    obtain ⟨rd, ers, hrd⟩ : ∃ rd : Rd, ("1" : Str) = rd.s ∧ (rd = .one ∨ ins = 2) := ⟨.one, rfl, .inl rfl⟩
    obtain ⟨H6, hH6⟩ : ∃ H6, H6 = G2 := ⟨_, rfl⟩
    rw [ers, ← hH6]
    have k6 : Kp p G2 H6 := by rw [hH6]; exact Kp.refl _ _
    have p6 : Pot p H6 := by rw [hH6]; exact po
    clear ers hH6
    all_goals
      have kl6 := kl_kp po k6 pLA
      have hL6 : H6 L = some (.lst ws) := k6 _ _ nL hLw
      have nn6 := kp_nn p6 k6 nn
      have r2 := rd_len rd
      refine ⟨_, rfl, .inl ⟨rfl, _, SqL.of hL6⟩, _, rfl, _, rfl, _, rfl, Nat.le_trans r2 (by decide), _, _, rfl, rfl, .inl (by decide), ((2 * rd.s.length : Nat) : Int), by simp, by omega, by omega, fun D hD => lc_it walk_range (fun j H' => ∃ (vr : List V) (rs : List Rw), rs.length = j ∧ (∀ r ∈ rs, r.ok outs many) ∧ Paired (RwA H') vr rs ∧ H' D = some (.lst vr) ∧ Kp p H6 H' ∧ Pot p H') ⟨[], [], rfl, by simp, .nil, upd_same, kp_new hD _, p6.same (same_new hD _)⟩ (fun _ _ _ _ => trivial) ?_ ?_⟩
      · rintro j x H7 H8 hj ⟨vr, rs, lr, rok, pr, hd, kk, pp⟩ ⟨rfl, rfl⟩
        refine ⟨rfl, tyI ⟨_, rfl, _, rfl, _, rfl, p, outs, many, rfl, pp, o2, em1, em4, fun v r H9 rv rk k9 p9 => ?_⟩⟩
        have nD := p6.ne hD
        have hd9 := k9 _ _ nD hd
        refine ⟨_, hd9, ?_, vr ++ [v], rs ++ [r], by simp [lr], fun z hz => ?_, paired_app (rwA_all (tups_at hd9) (rwA_all (pp.tups k9) pr)) (.cons (rv.keep (tups_at hd9)) .nil), upd_same, kp_at (kk.trans k9) hD, pot_at p9 nD⟩
        · rw [paired_len pr]
          exact Nat.lt_of_lt_of_le (show rs.length < 100000 by omega) (by decide)
        · rcases List.mem_append.mp hz with hz | hz
          · exact rok z hz
          · rw [List.mem_singleton.mp hz]; exact rk
      · rintro H7 ⟨vr, rs, lr, rok, pr, hd, kk, pp⟩
        refine ⟨sz rfl, fun T9 hT9 => ?_⟩
        have k9 := same_new hT9 (.tup [.str rd.s, .ref D])
        have nD := p6.ne hD
        have DA : D ∉ [L, p] := new_nin nn6 hD
        have hL9 := k9 _ _ (kk _ _ nL hL6)
        have lrs : rs.length = rd.many := by rw [← rd_many]; omega
        refine ⟨_, _, _, rfl, rfl, hL9, by rw [lw]; exact Nat.lt_of_lt_of_le (show sg.length < 100000 by omega) (by decide), ?_⟩
        have kl9 : KL [L, p] H7 (upd (upd H7 T9 (.tup [.str rd.s, .ref D])) L (.lst (ws ++ [.ref T9]))) := (KL.of k9).trans (KL.at hL9 lLA)
        have kl69 := ((kl_kp po k6 pLA).trans (kl_kp p6 kk pLA)).trans kl9
        refine ⟨_, _, ws ++ [.ref T9], sg ++ [⟨rd, rs⟩], rfl, by simp [ls], fun z hz => ?_, paired_app (toldX_all kl69 pw) (.cons ⟨T9, D, vr, rfl, ?_, DA, kl9.lst DA hd, rwA_all kl9.tups pr⟩ .nil), upd_same, kp_at ((kp.trans (k6.trans kk)).trans (Kp.of k9)) (none_ofS kT hL), pot_at (pp.same k9) nL, upd_nn (same_nn k9 (kp_nn pp kk nn6))⟩
        · rcases List.mem_append.mp hz with hz | hz
          · exact sok z hz
          · rw [List.mem_singleton.mp hz]
            exact ⟨hrd, lrs, rok⟩
        · rw [upd_ne (ne_of_none (kk _ _ nL hL6) hT9).symm]
          exact upd_same
  · rintro τ H6 ⟨a, b, ws, sg, rfl, ls, sok, pw, hLw, kp, po, nn⟩
    refine ⟨_, rfl, _, rfl, _, rfl, sz rfl, fun a9 ha9 => ?_⟩
    have k9 := same_new ha9 (.tup [.int (ins : Nat), .int (outs : Nat), .ref L])
    have lsg : sg.length = many := by omega
    have dat : DatA [p] (upd H6 a9 (.tup [.int (ins : Nat), .int (outs : Nat), .ref L])) (.ref a9) ⟨ins, outs, sg⟩ := ⟨a9, L, ws, rfl, upd_same, LA, k9 _ _ hLw, toldX_sub (fun x hx => List.mem_cons_of_mem _ hx) (toldX_all (KL.of k9) pw)⟩
    have p9 := po.same k9
    exact q (.ref a9) ⟨ins, outs, sg⟩ _ ⟨i1, i2, o1, o2, by show 1 ≤ sg.length; omega, by show sg.length ≤ 4; omega, fun s hs => by show s.ok ins outs sg.length; rw [lsg]; exact sok s hs⟩ (dat.tv (List.mem_singleton.mpr rfl) p9.nt) ((k03.trans kp).trans (Kp.of k9)) p9
end
end FY


set_option Elab.async false
set_option linter.all false
set_option maxRecDepth 100000
set_option maxHeartbeats 8000000
namespace FY
open PySem L2 FYR
/-! ## rows that are none -/
theorem seq_split {t1 t2 : TS} {D : Ends} {σ : St} {H : Hp} (R : St → Hp → Prop) (h1 : ∀ D' : Ends, (∀ σ' H', R σ' H' → D'.nx σ' H') → t1 D' σ H) (h2 : ∀ σ' H', R σ' H' → t2 D σ' H') : tSeq t1 t2 D σ H := h1 _ h2
theorem seq_splitR {t1 t2 : TS} {D : Ends} {σ : St} {H : Hp} (R : St → Hp → Prop) (h1 : ∀ D' : Ends, D'.rt = D.rt → (∀ σ' H', R σ' H' → D'.nx σ' H') → t1 D' σ H) (h2 : ∀ σ' H', R σ' H' → t2 D σ' H') : tSeq t1 t2 D σ H := h1 _ rfl h2
def gvD (gs : List (List Bool)) : PyData := .tuple (gs.map fun b => .str (tx b))
def oddR (outs many : Nat) (d : PyData) : Prop := rowB outs many d = false ∧ shRow d
def spOddRows : Sp := fun vs H Q _ => ∃ (p : Addr) (v : V) (r : Rw) (outs many : Nat) (Z : List Addr), vs = [v, .int (many : Nat)] ∧ Pot p H ∧ p ∈ Z ∧ ZL Z H ∧ TZ Z H v (rwD r) ∧ r.ok outs many ∧ 1 ≤ outs ∧ outs ≤ 2 ∧ many ≤ 4 ∧
  ∀ H' L us, Same H H' → H L = none → H' L = some (.lst us) → AllZ (oddR outs many) Z H' us → us.length = 24 → Q (.ref L) H'
theorem row3 (outs many : Nat) (a b c : PyData) : rowB outs many (.tuple [a, b, c]) = (gvsB outs a && belD many b && tckB c) := rfl
theorem odd_g {outs many : Nat} {a b c : PyData} (h : gvsB outs a = false) (s : shAll a) : oddR outs many (.tuple [a, b, c]) := ⟨by rw [row3, h]; rfl, s⟩
theorem odd_b {outs many : Nat} {a b c : PyData} (h : belD many b = false) (s : shAll a) : oddR outs many (.tuple [a, b, c]) := ⟨by rw [row3, h, Bool.and_false]; rfl, s⟩
theorem odd_c {outs many : Nat} {a b c : PyData} (h : tckB c = false) (s : shAll a) : oddR outs many (.tuple [a, b, c]) := ⟨by rw [row3, h, Bool.and_false], s⟩
theorem sh_tx {b : List Bool} (h : b.length ≤ 2) : shortD (.str (tx b)) := by
  show (tx b).cps.size ≤ 100000
  have e : (tx b).length = b.length := tx_len b
  have e2 : (tx b).length = (tx b).cps.size := rfl
  omega
theorem sh_gv {gs : List (List Bool)} (h : ∀ b ∈ gs, b.length ≤ 2) : ∀ g ∈ gs.map (fun b => PyData.str (tx b)), shortD g := fun g hg => by
  obtain ⟨b, hb, rfl⟩ := List.mem_map.mp hg
  exact sh_tx (h b hb)
theorem sh_cons {d : PyData} {ds : List PyData} (h : shortD d) (t : ∀ g ∈ ds, shortD g) : ∀ g ∈ d :: ds, shortD g := fun g hg => by
  rcases List.mem_cons.mp hg with rfl | hg
  · exact h
  · exact t g hg
def shortB : PyData → Bool
  | .str s => decide (s.cps.size ≤ 100000)
  | _ => true
theorem shB {d : PyData} (h : shortB d = true) : shortD d := by
  cases d with
  | str s =>
    show s.cps.size ≤ 100000
    exact of_decide_eq_true h
  | _ => trivial
theorem gvs_len {outs : Nat} {ds : List PyData} (h : ds.length ≠ outs) : gvsB outs (.tuple ds) = false := by
  show (decide (ds.length = outs) && _) = false
  rw [decide_eq_false h]; rfl
theorem gvs_bad {outs : Nat} {d : PyData} {ds : List PyData} (h : txtM 2 d = false) : gvsB outs (.tuple (d :: ds)) = false := by
  show (decide _ && (d :: ds).all (txtM 2)) = false
  rw [List.all_cons, h, Bool.false_and, Bool.and_false]
theorem cut_d1 (xs : List V) : cutV xs (some 1) none = xs.drop 1 := by
  unfold cutV
  have e2 : HT.sIx xs.length xs.length none = xs.length := rfl
  have e1 : HT.sIx xs.length 0 (some 1) = min 1 xs.length := HT.sIx_nat _ _ 1
  rw [e1, e2]
  cases xs with
  | nil => rfl
  | cons x r =>
    have : min 1 (x :: r).length = 1 := by rw [List.length_cons]; omega
    rw [this]
    show ((x :: r).drop 1).take _ = _
    rw [List.take_of_length_le (by rw [List.length_drop]; exact Nat.le_refl _)]
theorem cut_t2 (xs : List V) : cutV xs none (some 2) = xs.take 2 := by
  unfold cutV
  rw [show HT.sIx xs.length 0 none = 0 from rfl, show HT.sIx xs.length xs.length (some 2) = min 2 xs.length from HT.sIx_nat _ _ 2]
  show (xs.drop 0).take _ = _
  rw [List.drop_zero, Nat.sub_zero]
  by_cases h : 2 ≤ xs.length
  · rw [Nat.min_eq_left h]
  · rw [Nat.min_eq_right (by omega), List.take_of_length_le (Nat.le_refl _), List.take_of_length_le (by omega)]
theorem cut_m1 (xs : List V) : cutV xs none (some (-1)) = xs.dropLast := by
  unfold cutV
  have e1 : HT.sIx xs.length 0 none = 0 := rfl
  have e2 : HT.sIx xs.length xs.length (some (-1)) = xs.length - 1 := by
    show (if (-1 : Int) < 0 then ((-1 : Int) + (xs.length : Int)).toNat else min (-1 : Int).toNat xs.length) = _
    rw [if_pos (by decide)]
    omega
  rw [e1, e2]
  show (xs.drop 0).take _ = _
  rw [List.drop_zero, Nat.sub_zero, List.dropLast_eq_take]
/-- what stands by while odd values are made -/
structure SR (H0 : Hp) (Sz : PyData → Prop) (Z : List Addr) (G : Hp) (vs : List V) : Prop where
  sm : Same H0 G
  zl : ZL Z G
  az : AllZ Sz Z G vs
section
variable {H0 : Hp} {a : Addr} {Sz : PyData → Prop} {Z : List Addr} {G G' : Hp} {vs : List V} {v : V} {d : PyData} {ds : List PyData} {xs : List V}
theorem SR.same (s : SR H0 Sz Z G vs) (k : Same G G') : SR H0 Sz Z G' vs := ⟨s.sm.trans' k, s.zl.same k, s.az.same k⟩
theorem SR.add (s : SR H0 Sz Z G vs) (t : TZ Z G v d) (z : Sz d) : SR H0 Sz Z G (vs ++ [v]) := ⟨s.sm, s.zl, s.az.add t z⟩
theorem SR.tup (s : SR H0 Sz Z G vs) (ha : G a = none) (t : TZs Z G xs ds) (z : Sz (.tuple ds)) : SR H0 Sz Z (upd G a (.tup xs)) (vs ++ [.ref a]) := by
  have k := same_new ha (.tup xs)
  have s2 := s.same k
  exact s2.add (tz_tup s2.zl upd_same (t.same k)) z
theorem SR.tz_new (s : SR H0 Sz Z G vs) (ha : G a = none) (t : TZs Z G xs ds) : TZ Z (upd G a (.lst xs)) (.ref a) (.list ds) := tz_lst (fun z hz => s.zl.ne hz ha) upd_same (t.same (same_new ha _))
theorem SR.lst (s : SR H0 Sz Z G vs) (ha : G a = none) (t : TZs Z G xs ds) (z : Sz (.list ds)) : SR H0 Sz Z (upd G a (.lst xs)) (vs ++ [.ref a]) := (s.same (same_new ha _)).add (s.tz_new ha t) z
end
theorem neq_d1 {xs : List V} (h : 1 ≤ xs.length) : ¬(HT.sIx xs.length 0 (some 1) = 0 ∧ HT.sIx xs.length xs.length none = xs.length) := fun e => by
  have e1 := e.1
  have e2 : HT.sIx xs.length 0 (some 1) = min 1 xs.length := HT.sIx_nat _ _ 1
  omega
theorem neq_m1 {xs : List V} (h : 1 ≤ xs.length) : ¬(HT.sIx xs.length 0 none = 0 ∧ HT.sIx xs.length xs.length (some (-1)) = xs.length) := fun e => by
  have e1 := e.2
  have e2 : HT.sIx xs.length xs.length (some (-1)) = xs.length - 1 := by
    show (if (-1 : Int) < 0 then ((-1 : Int) + (xs.length : Int)).toNat else min (-1 : Int).toNat xs.length) = _
    rw [if_pos (by decide)]
    omega
  omega
theorem tv_dropLast {p : Addr} {H : Hp} {vs : List V} {ds : List PyData} (h : TvAll p H vs ds) : TvAll p H vs.dropLast ds.dropLast := by
  rw [List.dropLast_eq_take, List.dropLast_eq_take, h.len]
  exact h.take _
section
variable {P : Program} {w : World} {K : PySem.W.Frag} {mg : Str → Option Value} {base : Heap} {aS a1 a2 aL aT : Addr} {f : Addr} {fd : FuncData} {C CD CY : Addr} {mc : Value}
abbrev s_law_odd_rows : Stmt := top 35
abbrev N_law_odd_rows : List Str := ["_law_row_here", "_law_many", "_law_gives", "_law_goal", "_law_lasts", "_law_some"]
theorem sc_law_odd_rows : FnScope N_law_odd_rows ["_law_row_here", "_law_many"] (defScope s_law_odd_rows) := ⟨rfl, rfl, rfl, by decide +kernel, rfl, by decide +kernel, by decide +kernel⟩
theorem ok_law_odd_rows (F : Fun K "_law_odd_rows" "_law_odd_rows" s_law_odd_rows f fd) (T : Txt K mg aS a1 a2) : FnOk P w K mg base CX0 1 f fd ["_law_row_here", "_law_many"] spOddRows := by
  refine F.ok sc_law_odd_rows (fun vs H Q E h => ?_) (fun cdv A outer s H vs Q E hr h => ?_)
  · obtain ⟨p, v, r, o, m, Z, rfl, _⟩ := h
    rfl
  obtain ⟨p, v, r, outs, many, Z, rfl, p0, pZ, zl, tz, ⟨rl, r2, rg, rt1, rt2⟩, o1, o2, m4, q⟩ := h
  refine ⟨_, (pss_cons (ps_asg (pv 0) (kTupG (n := 3) K rfl rfl (pgs_cons (pg_name (i := 2) sc_law_odd_rows.nd rfl (Or.inl rfl)) (pgs_cons (pg_name (i := 3) sc_law_odd_rows.nd rfl (Or.inl rfl)) (pgs_cons (pg_name (i := 4) sc_law_odd_rows.nd rfl (Or.inl rfl)) pgs_nil)))))
        (pss_cons (ps_set (i := 5) sc_law_odd_rows.nd rfl (Or.inl rfl) (pe_lst (pa_cons pe_non (pa_cons (pe_callTy call_list_of rfl T.b_list bt_list (pa_cons (pv 0) pa_nil)) (pa_cons (pe_slice (kSlT K rfl) (pv 0) po_none (po_some pe_int)) (pa_cons (pe_op (kCatA K rfl) (pv 0) (pe_tup (pa_cons pe_int pa_nil))) (pa_cons (pe_tup (pa_cons (pe_callTy call_list_of rfl T.b_list bt_list (pa_cons (pv 2) pa_nil)) (pa_cons (pv 3) (pa_cons (pv 4) pa_nil)))) (pa_cons (pe_tup (pa_cons (pe_slice (kSlT K rfl) (pv 2) po_none (po_some (pe_un un_neg pe_int))) (pa_cons (pv 3) (pa_cons (pv 4) pa_nil)))) pa_nil))))))))
        (pss_cons (ps_set (i := 5) sc_law_odd_rows.nd rfl (Or.inl rfl) (pe_op op_cat (pv 5) (pe_lst (pa_cons (pe_tup (pa_cons (pe_op (kCatA K rfl) (pv 2) (pe_tup (pa_cons pe_str pa_nil))) (pa_cons (pv 3) (pa_cons (pv 4) pa_nil)))) (pa_cons (pe_tup (pa_cons (pe_op (kCatA K rfl) (pe_tup (pa_cons pe_str pa_nil)) (pe_slice (kSlT K rfl) (pv 2) (po_some pe_int) po_none)) (pa_cons (pv 3) (pa_cons (pv 4) pa_nil)))) (pa_cons (pe_tup (pa_cons (pe_op (kCatA K rfl) (pe_tup (pa_cons pe_str pa_nil)) (pe_slice (kSlT K rfl) (pv 2) (po_some pe_int) po_none)) (pa_cons (pv 3) (pa_cons (pv 4) pa_nil)))) pa_nil))))))
        (pss_cons (ps_set (i := 5) sc_law_odd_rows.nd rfl (Or.inl rfl) (pe_op op_cat (pv 5) (pe_lst (pa_cons (pe_tup (pa_cons (pe_op (kCatA K rfl) (pe_tup (pa_cons pe_non pa_nil)) (pe_slice (kSlT K rfl) (pv 2) (po_some pe_int) po_none)) (pa_cons (pv 3) (pa_cons (pv 4) pa_nil)))) (pa_cons (pe_tup (pa_cons (pe_op (kCatA K rfl) (pe_tup (pa_cons pe_int pa_nil)) (pe_slice (kSlT K rfl) (pv 2) (po_some pe_int) po_none)) (pa_cons (pv 3) (pa_cons (pv 4) pa_nil)))) (pa_cons (pe_tup (pa_cons (pv 2) (pa_cons (pv 1) (pa_cons (pv 4) pa_nil)))) pa_nil))))))
        (pss_cons (ps_set (i := 5) sc_law_odd_rows.nd rfl (Or.inl rfl) (pe_op op_cat (pv 5) (pe_lst (pa_cons (pe_tup (pa_cons (pv 2) (pa_cons (pe_un un_neg pe_int) (pa_cons (pv 4) pa_nil)))) (pa_cons (pe_tup (pa_cons (pv 2) (pa_cons pe_bl (pa_cons (pv 4) pa_nil)))) (pa_cons (pe_tup (pa_cons (pv 2) (pa_cons pe_non (pa_cons (pv 4) pa_nil)))) (pa_cons (pe_tup (pa_cons (pv 2) (pa_cons pe_str (pa_cons (pv 4) pa_nil)))) pa_nil)))))))
        (pss_cons (ps_set (i := 5) sc_law_odd_rows.nd rfl (Or.inl rfl) (pe_op op_cat (pv 5) (pe_lst (pa_cons (pe_tup (pa_cons (pv 2) (pa_cons (pv 3) (pa_cons pe_int pa_nil)))) (pa_cons (pe_tup (pa_cons (pv 2) (pa_cons (pv 3) (pa_cons pe_int pa_nil)))) (pa_cons (pe_tup (pa_cons (pv 2) (pa_cons (pv 3) (pa_cons pe_bl pa_nil)))) (pa_cons (pe_tup (pa_cons (pv 2) (pa_cons (pv 3) (pa_cons pe_non pa_nil)))) (pa_cons (pe_tup (pa_cons (pv 2) (pa_cons (pv 3) (pa_cons (pe_un un_neg pe_int) pa_nil)))) pa_nil))))))))
        (pss_one (ps_ret (pe_op op_cat (pv 5) (pe_lst (pa_cons (pe_tup (pa_cons (pv 2) (pa_cons (pv 3) (pa_cons (pe_op op_pow pe_int pe_int) pa_nil)))) (pa_cons pe_str (pa_cons (pe_tup (pa_cons (pv 2) (pa_cons (pv 3) (pa_cons (pe_tup (pa_cons pe_int pa_nil)) pa_nil)))) pa_nil))))))))))))), ?_⟩
  obtain ⟨a, g, rfl, ha, hg⟩ := rwA_tv (tz p pZ)
  have hg : H g = some (.tup (tV r.gives)) := hg
  have st0 : SR H (oddR outs many) Z H [] := ⟨fun _ _ e => e, zl, AllZ.nil⟩
  have lgs : (tV r.gives).length = outs := by rw [tV_len]; exact rl
  have tzg : ∀ {G : Hp}, Same H G → TZ Z G (.ref g) (gvD r.gives) := fun s z hz => (Tv.tup (zl.nt hz hg) hg (tvall_str _)).same s
  have tzr : ∀ {G : Hp}, Same H G → TZs Z G [.ref g, .int (r.goal : Nat), .int (r.ticks : Nat)] [gvD r.gives, .int (r.goal : Nat), .int (r.ticks : Nat)] := fun s => TZs.cons (tzg s) (TZs.cons (tz_int _) (TZs.one (tz_int _)))
  have shg : shAll (gvD r.gives) := sh_gv r2
  have shl : shAll (.tuple ((r.gives.map fun b => PyData.str (tx b)).dropLast)) := fun x hx => sh_gv r2 x (List.mem_of_mem_take (List.dropLast_eq_take ▸ hx))
  have shd : ∀ x ∈ ((r.gives.map fun b => PyData.str (tx b)).drop 1), shortD x := fun x hx => sh_gv r2 x (List.mem_of_mem_drop hx)
  have l1 : 1 ≤ (tV r.gives).length := by omega
  have t3 : ∀ {G : Hp} {x : V} {d : PyData}, TZ Z G x d → TZs Z G [x, .int (r.goal : Nat), .int (r.ticks : Nat)] [d, .int (r.goal : Nat), .int (r.ticks : Nat)] := fun t => TZs.cons t (TZs.cons (tz_int _) (TZs.one (tz_int _)))
  refine ⟨_, rfl, _, _, rfl, SqT.of ha, rfl, _, _, rfl, _, _, rfl, _, _, rfl, rfl, tNext_i ?_⟩
  dsimp only
  -- the first
  refine seq_split (fun τ G => ∃ (L : Addr) (vs : List V), τ = [some (.ref a), some (.int (many : Nat)), some (.ref g), some (.int (r.goal : Nat)), some (.int (r.ticks : Nat)), some (.ref L)] ∧ SR H (oddR outs many) Z G vs ∧ vs.length = 6 ∧ H L = none ∧ G L = some (.lst vs)) (fun D1 hD1 => ?_) ?_
  · have st := st0.add (v := .non) tz_non ⟨rfl, trivial⟩
    refine ⟨_, rfl, _, _, rfl, .inr (SqT.of ha), fun T1 hT1 => ?_⟩
    replace st := st.lst hT1 (tzr (fun _ _ e => e)) ⟨rfl, trivial⟩
    refine ⟨_, rfl, _, rfl, a, _, rfl, SqT.of (st.sm _ _ ha), fun e => absurd e.2 (by show ¬ HT.sIx 3 3 (some 2) = 3; decide), fun T2 hT2 => ?_⟩
    rw [cut_t2] at *
    replace st := st.tup hT2 (ds := [gvD r.gives, .int (r.goal : Nat)]) (TZs.cons (tzg st.sm) (TZs.one (tz_int _))) ⟨rfl, trivial⟩
    refine ⟨_, rfl, sz rfl, fun T3 hT3 => ?_⟩
    refine catT (((same_new hT3 _).trans' (fun _ _ e => e)) _ _ (st.sm _ _ ha)) upd_same (by show 3 + 1 ≤ 1000; decide) fun G4 r4 s4 h4 => ?_
    replace st := (st.same (same_new hT3 (.tup [V.int 1]))).same s4
    replace st := st.add (tz_tup (ds := [gvD r.gives, .int (r.goal : Nat), .int (r.ticks : Nat), .int 1]) st.zl h4 (TZs.cons (tzg st.sm) (TZs.cons (tz_int _) (TZs.cons (tz_int _) (TZs.one (tz_int _)))))) ⟨rfl, trivial⟩
    refine ⟨_, rfl, _, _, rfl, .inr (SqT.of (st.sm _ _ hg)), fun T5 hT5 => ?_⟩
    have tl := st.tz_new hT5 (xs := tV r.gives) (ds := r.gives.map fun b => .str (tx b)) (fun z _ => tvall_str r.gives)
    replace st := st.same (same_new hT5 (.lst (tV r.gives)))
    refine ⟨_, rfl, _, rfl, sz rfl, fun T6 hT6 => ?_⟩
    replace st := st.tup hT6 (t3 tl) (odd_g rfl trivial)
    refine ⟨_, rfl, _, rfl, _, rfl, g, _, rfl, SqT.of (st.sm _ _ hg), neq_m1 l1, fun T7 hT7 => ?_⟩
    replace st := st.same (same_new hT7 (.tup (cutV (tV r.gives) none (some (-1)))))
    have tl7 : TZ Z _ (.ref T7) (.tuple ((r.gives.map fun b => PyData.str (tx b)).dropLast)) := tz_tup st.zl upd_same (fun z _ => by rw [cut_m1]; exact tv_dropLast (tvall_str r.gives))
    refine ⟨_, rfl, _, rfl, sz rfl, fun T8 hT8 => ?_⟩
    replace st := st.tup hT8 (t3 tl7) (odd_g (gvs_len (by rw [List.length_dropLast, List.length_map]; omega)) shl)
    refine ⟨sz rfl, fun N1 hN1 => ?_⟩
    exact hD1 _ _ ⟨N1, _, rfl, st.same (same_new hN1 _), rfl, none_ofS st.sm hN1, upd_same⟩
  rintro τ H1 ⟨S1, vs1, rfl, st1, lv1, fS1, hS1⟩
  refine seq_split (fun τ G => ∃ (L : Addr) (vs : List V), τ = [some (.ref a), some (.int (many : Nat)), some (.ref g), some (.int (r.goal : Nat)), some (.int (r.ticks : Nat)), some (.ref L)] ∧ SR H (oddR outs many) Z G vs ∧ vs.length = 9 ∧ H L = none ∧ G L = some (.lst vs)) (fun D1 hD1 => ?_) ?_
  · have st : SR H (oddR outs many) Z H1 [] := ⟨st1.sm, st1.zl, AllZ.nil⟩
    have kp0 : Same H1 H1 := fun _ _ e => e
    refine ⟨_, rfl, ?_⟩
    refine ⟨_, rfl, sz rfl, fun A0 hA0 => ?_⟩
    refine catT ((st.sm.trans' (same_new hA0 _)) _ _ hg) upd_same (by show (tV r.gives).length + 1 ≤ 1000; omega) fun G0 r0 s0 h0 => ?_
    replace kp0 := kp0.trans' ((same_new hA0 _).trans' s0)
    replace st := st.same ((same_new hA0 _).trans' s0)
    refine ⟨_, rfl, _, rfl, sz rfl, fun C0 hC0 => ?_⟩
    replace kp0 := kp0.trans' (same_new hC0 (.tup [V.ref r0, .int (r.goal : Nat), .int (r.ticks : Nat)]))
    replace st := st.tup hC0 (t3 (tz_tup st.zl h0 (fun z _ => (tvall_str r.gives).app (.cons (.str "") .nil)))) (odd_g (gvs_len (by rw [List.length_append, List.length_map, rl]; show outs + 1 ≠ outs; omega)) (fun x hx => (List.mem_append.mp hx).elim (sh_gv r2 x) fun hx => by rw [List.mem_singleton.mp hx]; exact (by decide +kernel : shortB (.str "") = true) |> shB))
    refine ⟨sz rfl, fun A1 hA1 => ⟨_, rfl, _, rfl, g, _, rfl, SqT.of ((st.sm.trans' (same_new hA1 _)) _ _ hg), neq_d1 l1, fun B1 hB1 => ?_⟩⟩
    refine catT ((same_new hB1 _) _ _ upd_same) upd_same (by rw [cut_d1, List.length_drop]; show 1 + _ ≤ 1000; omega) fun G1 r1 s1 h1 => ?_
    rw [cut_d1] at h1
    replace kp0 := kp0.trans' (((same_new hA1 _).trans' (same_new hB1 _)).trans' s1)
    replace st := st.same (((same_new hA1 _).trans' (same_new hB1 _)).trans' s1)
    refine ⟨_, rfl, _, rfl, sz rfl, fun C1 hC1 => ?_⟩
    replace kp0 := kp0.trans' (same_new hC1 (.tup [V.ref r1, .int (r.goal : Nat), .int (r.ticks : Nat)]))
    replace st := st.tup hC1 (t3 (tz_tup st.zl h1 (TZs.cons (tz_str "000") fun z _ => (tvall_str r.gives).drop 1))) (odd_g (gvs_bad (by decide +kernel)) (sh_cons (shB (by decide +kernel)) shd))
    refine ⟨sz rfl, fun A2 hA2 => ⟨_, rfl, _, rfl, g, _, rfl, SqT.of ((st.sm.trans' (same_new hA2 _)) _ _ hg), neq_d1 l1, fun B2 hB2 => ?_⟩⟩
    refine catT ((same_new hB2 _) _ _ upd_same) upd_same (by rw [cut_d1, List.length_drop]; show 1 + _ ≤ 1000; omega) fun G2 r2 s2 h2 => ?_
    rw [cut_d1] at h2
    replace kp0 := kp0.trans' (((same_new hA2 _).trans' (same_new hB2 _)).trans' s2)
    replace st := st.same (((same_new hA2 _).trans' (same_new hB2 _)).trans' s2)
    refine ⟨_, rfl, _, rfl, sz rfl, fun C2 hC2 => ?_⟩
    replace kp0 := kp0.trans' (same_new hC2 (.tup [V.ref r2, .int (r.goal : Nat), .int (r.ticks : Nat)]))
    replace st := st.tup hC2 (t3 (tz_tup st.zl h2 (TZs.cons (tz_str "2") fun z _ => (tvall_str r.gives).drop 1))) (odd_g (gvs_bad (by decide +kernel)) (sh_cons (shB (by decide +kernel)) shd))
    refine ⟨sz rfl, fun N hN => ?_⟩
    refine ⟨S1, N, vs1, _, rfl, rfl, (kp0.trans' (same_new hN _)) _ _ hS1, upd_same, by rw [lv1]; exact Nat.le_trans (Nat.add_le_add_left (show _ ≤ 5 by simp) _) (by decide), fun M hM => ?_⟩
    exact hD1 _ _ ⟨M, _, rfl, ⟨((st.same (same_new hN _)).same (same_new hM _)).sm, ((st.same (same_new hN _)).same (same_new hM _)).zl, (((st1.az.same kp0).same (same_new hN _)).same (same_new hM _)).app ((st.same (same_new hN _)).same (same_new hM _)).az⟩, by rw [List.length_append, lv1]; rfl, none_ofS st.sm (none_ofS (same_new hN _) hM), upd_same⟩
  rintro τ H2 ⟨S2, vs2, rfl, st2, lv2, fS2, hS2⟩
  refine seq_split (fun τ G => ∃ (L : Addr) (vs : List V), τ = [some (.ref a), some (.int (many : Nat)), some (.ref g), some (.int (r.goal : Nat)), some (.int (r.ticks : Nat)), some (.ref L)] ∧ SR H (oddR outs many) Z G vs ∧ vs.length = 12 ∧ H L = none ∧ G L = some (.lst vs)) (fun D1 hD1 => ?_) ?_
  · have st : SR H (oddR outs many) Z H2 [] := ⟨st2.sm, st2.zl, AllZ.nil⟩
    have kp0 : Same H2 H2 := fun _ _ e => e
    refine ⟨_, rfl, ?_⟩
    refine ⟨sz rfl, fun A1 hA1 => ⟨_, rfl, _, rfl, g, _, rfl, SqT.of ((st.sm.trans' (same_new hA1 _)) _ _ hg), neq_d1 l1, fun B1 hB1 => ?_⟩⟩
    refine catT ((same_new hB1 _) _ _ upd_same) upd_same (by rw [cut_d1, List.length_drop]; show 1 + _ ≤ 1000; omega) fun G1 r1 s1 h1 => ?_
    rw [cut_d1] at h1
    replace kp0 := kp0.trans' (((same_new hA1 _).trans' (same_new hB1 _)).trans' s1)
    replace st := st.same (((same_new hA1 _).trans' (same_new hB1 _)).trans' s1)
    refine ⟨_, rfl, _, rfl, sz rfl, fun C1 hC1 => ?_⟩
    replace kp0 := kp0.trans' (same_new hC1 (.tup [V.ref r1, .int (r.goal : Nat), .int (r.ticks : Nat)]))
    replace st := st.tup hC1 (t3 (tz_tup st.zl h1 (TZs.cons tz_non fun z _ => (tvall_str r.gives).drop 1))) (odd_g (gvs_bad rfl) (sh_cons trivial shd))
    refine ⟨sz rfl, fun A2 hA2 => ⟨_, rfl, _, rfl, g, _, rfl, SqT.of ((st.sm.trans' (same_new hA2 _)) _ _ hg), neq_d1 l1, fun B2 hB2 => ?_⟩⟩
    refine catT ((same_new hB2 _) _ _ upd_same) upd_same (by rw [cut_d1, List.length_drop]; show 1 + _ ≤ 1000; omega) fun G2 r2 s2 h2 => ?_
    rw [cut_d1] at h2
    replace kp0 := kp0.trans' (((same_new hA2 _).trans' (same_new hB2 _)).trans' s2)
    replace st := st.same (((same_new hA2 _).trans' (same_new hB2 _)).trans' s2)
    refine ⟨_, rfl, _, rfl, sz rfl, fun C2 hC2 => ?_⟩
    replace kp0 := kp0.trans' (same_new hC2 (.tup [V.ref r2, .int (r.goal : Nat), .int (r.ticks : Nat)]))
    replace st := st.tup hC2 (t3 (tz_tup st.zl h2 (TZs.cons (tz_int 0) fun z _ => (tvall_str r.gives).drop 1))) (odd_g (gvs_bad rfl) (sh_cons trivial shd))
    refine ⟨_, rfl, _, rfl, _, rfl, sz rfl, fun C3 hC3 => ?_⟩
    replace kp0 := kp0.trans' (same_new hC3 (.tup [V.ref g, .int (many : Nat), .int (r.ticks : Nat)]))
    replace st := st.tup hC3 (TZs.cons (tzg st.sm) (TZs.cons (tz_int ((many : Nat) : Int)) (TZs.one (tz_int ((r.ticks : Nat) : Int))))) (odd_b (by show (decide (0 ≤ ((many : Nat) : Int)) && decide (((many : Nat) : Int) < ((many : Nat) : Int))) = false; rw [decide_eq_false (Int.lt_irrefl _), Bool.and_false]) shg)
    refine ⟨sz rfl, fun N hN => ?_⟩
    refine ⟨S2, N, vs2, _, rfl, rfl, (kp0.trans' (same_new hN _)) _ _ hS2, upd_same, by rw [lv2]; exact Nat.le_trans (Nat.add_le_add_left (show _ ≤ 5 by simp) _) (by decide), fun M hM => ?_⟩
    exact hD1 _ _ ⟨M, _, rfl, ⟨((st.same (same_new hN _)).same (same_new hM _)).sm, ((st.same (same_new hN _)).same (same_new hM _)).zl, (((st2.az.same kp0).same (same_new hN _)).same (same_new hM _)).app ((st.same (same_new hN _)).same (same_new hM _)).az⟩, by rw [List.length_append, lv2]; rfl, none_ofS st.sm (none_ofS (same_new hN _) hM), upd_same⟩
  rintro τ H3 ⟨S3, vs3, rfl, st3, lv3, fS3, hS3⟩
  refine seq_split (fun τ G => ∃ (L : Addr) (vs : List V), τ = [some (.ref a), some (.int (many : Nat)), some (.ref g), some (.int (r.goal : Nat)), some (.int (r.ticks : Nat)), some (.ref L)] ∧ SR H (oddR outs many) Z G vs ∧ vs.length = 16 ∧ H L = none ∧ G L = some (.lst vs)) (fun D1 hD1 => ?_) ?_
  · have st : SR H (oddR outs many) Z H3 [] := ⟨st3.sm, st3.zl, AllZ.nil⟩
    have kp0 : Same H3 H3 := fun _ _ e => e
    refine ⟨_, rfl, ?_⟩
    refine ⟨_, rfl, _, rfl, _, rfl, sz rfl, fun C1 hC1 => ?_⟩
    replace kp0 := kp0.trans' (same_new hC1 (.tup [V.ref g, .int (-1), .int (r.ticks : Nat)]))
    replace st := st.tup hC1 (TZs.cons (tzg st.sm) (TZs.cons (tz_int (-1)) (TZs.one (tz_int ((r.ticks : Nat) : Int))))) (odd_b rfl shg)
    refine ⟨_, rfl, _, rfl, sz rfl, fun C2 hC2 => ?_⟩
    replace kp0 := kp0.trans' (same_new hC2 (.tup [V.ref g, .bl true, .int (r.ticks : Nat)]))
    replace st := st.tup hC2 (TZs.cons (tzg st.sm) (TZs.cons (tz_bl true) (TZs.one (tz_int ((r.ticks : Nat) : Int))))) (odd_b rfl shg)
    refine ⟨_, rfl, _, rfl, sz rfl, fun C3 hC3 => ?_⟩
    replace kp0 := kp0.trans' (same_new hC3 (.tup [V.ref g, .non, .int (r.ticks : Nat)]))
    replace st := st.tup hC3 (TZs.cons (tzg st.sm) (TZs.cons tz_non (TZs.one (tz_int ((r.ticks : Nat) : Int))))) (odd_b rfl shg)
    refine ⟨_, rfl, _, rfl, sz rfl, fun C4 hC4 => ?_⟩
    replace kp0 := kp0.trans' (same_new hC4 (.tup [V.ref g, .str "0", .int (r.ticks : Nat)]))
    replace st := st.tup hC4 (TZs.cons (tzg st.sm) (TZs.cons (tz_str "0") (TZs.one (tz_int ((r.ticks : Nat) : Int))))) (odd_b rfl shg)
    refine ⟨sz rfl, fun N hN => ?_⟩
    refine ⟨S3, N, vs3, _, rfl, rfl, (kp0.trans' (same_new hN _)) _ _ hS3, upd_same, by rw [lv3]; exact Nat.le_trans (Nat.add_le_add_left (show _ ≤ 5 by simp) _) (by decide), fun M hM => ?_⟩
    exact hD1 _ _ ⟨M, _, rfl, ⟨((st.same (same_new hN _)).same (same_new hM _)).sm, ((st.same (same_new hN _)).same (same_new hM _)).zl, (((st3.az.same kp0).same (same_new hN _)).same (same_new hM _)).app ((st.same (same_new hN _)).same (same_new hM _)).az⟩, by rw [List.length_append, lv3]; rfl, none_ofS st.sm (none_ofS (same_new hN _) hM), upd_same⟩
  rintro τ H4 ⟨S4, vs4, rfl, st4, lv4, fS4, hS4⟩
  refine seq_split (fun τ G => ∃ (L : Addr) (vs : List V), τ = [some (.ref a), some (.int (many : Nat)), some (.ref g), some (.int (r.goal : Nat)), some (.int (r.ticks : Nat)), some (.ref L)] ∧ SR H (oddR outs many) Z G vs ∧ vs.length = 21 ∧ H L = none ∧ G L = some (.lst vs)) (fun D1 hD1 => ?_) ?_
  · have st : SR H (oddR outs many) Z H4 [] := ⟨st4.sm, st4.zl, AllZ.nil⟩
    have kp0 : Same H4 H4 := fun _ _ e => e
    refine ⟨_, rfl, ?_⟩
    refine ⟨_, rfl, _, rfl, sz rfl, fun C1 hC1 => ?_⟩
    replace kp0 := kp0.trans' (same_new hC1 (.tup [V.ref g, .int (r.goal : Nat), .int 0]))
    replace st := st.tup hC1 (TZs.cons (tzg st.sm) (TZs.cons (tz_int ((r.goal : Nat) : Int)) (TZs.one (tz_int 0)))) (odd_c rfl shg)
    refine ⟨_, rfl, _, rfl, sz rfl, fun C2 hC2 => ?_⟩
    replace kp0 := kp0.trans' (same_new hC2 (.tup [V.ref g, .int (r.goal : Nat), .int 10]))
    replace st := st.tup hC2 (TZs.cons (tzg st.sm) (TZs.cons (tz_int ((r.goal : Nat) : Int)) (TZs.one (tz_int 10)))) (odd_c rfl shg)
    refine ⟨_, rfl, _, rfl, sz rfl, fun C3 hC3 => ?_⟩
    replace kp0 := kp0.trans' (same_new hC3 (.tup [V.ref g, .int (r.goal : Nat), .bl true]))
    replace st := st.tup hC3 (TZs.cons (tzg st.sm) (TZs.cons (tz_int ((r.goal : Nat) : Int)) (TZs.one (tz_bl true)))) (odd_c rfl shg)
    refine ⟨_, rfl, _, rfl, sz rfl, fun C4 hC4 => ?_⟩
    replace kp0 := kp0.trans' (same_new hC4 (.tup [V.ref g, .int (r.goal : Nat), .non]))
    replace st := st.tup hC4 (TZs.cons (tzg st.sm) (TZs.cons (tz_int ((r.goal : Nat) : Int)) (TZs.one tz_non))) (odd_c rfl shg)
    refine ⟨_, rfl, _, rfl, _, rfl, sz rfl, fun C5 hC5 => ?_⟩
    replace kp0 := kp0.trans' (same_new hC5 (.tup [V.ref g, .int (r.goal : Nat), .int (-1)]))
    replace st := st.tup hC5 (TZs.cons (tzg st.sm) (TZs.cons (tz_int ((r.goal : Nat) : Int)) (TZs.one (tz_int (-1))))) (odd_c rfl shg)
    refine ⟨sz rfl, fun N hN => ?_⟩
    refine ⟨S4, N, vs4, _, rfl, rfl, (kp0.trans' (same_new hN _)) _ _ hS4, upd_same, by rw [lv4]; exact Nat.le_trans (Nat.add_le_add_left (show _ ≤ 5 by simp) _) (by decide), fun M hM => ?_⟩
    exact hD1 _ _ ⟨M, _, rfl, ⟨((st.same (same_new hN _)).same (same_new hM _)).sm, ((st.same (same_new hN _)).same (same_new hM _)).zl, (((st4.az.same kp0).same (same_new hN _)).same (same_new hM _)).app ((st.same (same_new hN _)).same (same_new hM _)).az⟩, by rw [List.length_append, lv4]; rfl, none_ofS st.sm (none_ofS (same_new hN _) hM), upd_same⟩
  rintro τ H5 ⟨S5, vs5, rfl, st5, lv5, fS5, hS5⟩
  have st : SR H (oddR outs many) Z H5 [] := ⟨st5.sm, st5.zl, AllZ.nil⟩
  have kp0 : Same H5 H5 := fun _ _ e => e
  refine ⟨_, rfl, ?_⟩
  refine ⟨_, rfl, _, rfl, _, _, rfl, rfl, ⟨by decide, by decide, by decide⟩, sz rfl, fun C1 hC1 => ?_⟩
  replace kp0 := kp0.trans' (same_new hC1 (.tup [V.ref g, .int (r.goal : Nat), .int (10 ^ (29 : Int).toNat)]))
  replace st := st.tup hC1 (TZs.cons (tzg st.sm) (TZs.cons (tz_int ((r.goal : Nat) : Int)) (TZs.one (tz_int (10 ^ (29 : Int).toNat))))) (odd_c (by decide +kernel) shg)
  replace st := st.add (v := .str "row") (tz_str "row") ⟨rfl, trivial⟩
  refine ⟨_, rfl, _, rfl, sz rfl, fun A2 hA2 => ⟨sz rfl, fun C2 hC2 => ?_⟩⟩
  replace kp0 := kp0.trans' ((same_new hA2 (.tup [V.int 1])).trans' (same_new hC2 (.tup [V.ref g, .int (r.goal : Nat), .ref A2])))
  replace st := st.same (same_new hA2 (.tup [V.int 1]))
  replace st := st.tup hC2 (TZs.cons (tzg st.sm) (TZs.cons (tz_int ((r.goal : Nat) : Int)) (TZs.one (tz_tup (xs := [V.int 1]) (ds := [.int 1]) st.zl upd_same (TZs.one (tz_int 1)))))) (odd_c rfl shg)
  refine ⟨sz rfl, fun N hN => ?_⟩
  refine ⟨S5, N, vs5, _, rfl, rfl, (kp0.trans' (same_new hN _)) _ _ hS5, upd_same, by rw [lv5]; exact Nat.le_trans (Nat.add_le_add_left (show _ ≤ 5 by simp) _) (by decide), fun M hM => ?_⟩
  exact q _ M _ ((st.same (same_new hN _)).same (same_new hM _)).sm (none_ofS st.sm (none_ofS (same_new hN _) hM)) upd_same ((((st5.az.same kp0).same (same_new hN _)).same (same_new hM _)).app ((st.same (same_new hN _)).same (same_new hM _)).az) (by rw [List.length_append, lv5]; rfl)
end
end FY


set_option Elab.async false
set_option linter.all false
set_option maxRecDepth 100000
set_option maxHeartbeats 8000000
namespace FY
open PySem L2 FYR
/-! ## standings that are none -/
def oddS (ins outs many : Nat) (d : PyData) : Prop := stnB ins outs many d = false ∧ shStn d ∧ lenO d
def lenB (ds : List PyData) : Bool := ds.all fun b => decide ((elsO b).length ≤ 1000)
theorem stn2 (ins outs many : Nat) (a b : PyData) : stnB ins outs many (.tuple [a, b]) = (readD ins a && isSeqD b && decide ((elsO b).length = manyR a) && (elsO b).all (rowB outs many)) := rfl
theorem lenO2 {a b : PyData} (h1 : (elsO a).length ≤ 1000) (h2 : (elsO b).length ≤ 1000) : lenO (.tuple [a, b]) := by
  show ([a, b].all fun b => decide ((elsO b).length ≤ 1000)) = true
  simp [h1, h2]
section
variable {ins outs many : Nat} {a b : PyData} {s : Str}
theorem os_rd (h : readD ins a = false) (k : rdKn a) (ha : elsO a = []) (sb : ∀ r ∈ elsO b, shRow r) (lb : (elsO b).length ≤ 1000) : oddS ins outs many (.tuple [a, b]) := ⟨by rw [stn2, h]; rfl, ⟨k, sb⟩, lenO2 (by rw [ha]; decide) lb⟩
theorem os_sq (h : isSeqD b = false) (k : rdKn (.str s)) (hb : elsO b = []) : oddS ins outs many (.tuple [.str s, b]) := ⟨by rw [stn2, h, Bool.and_false]; rfl, ⟨k, fun r hr => by rw [hb] at hr; cases hr⟩, lenO2 (show 0 ≤ 1000 by decide) (by rw [hb]; decide)⟩
theorem os_len (h : (elsO b).length ≠ manyR (.str s)) (k : rdKn (.str s)) (sb : ∀ r ∈ elsO b, shRow r) (lb : (elsO b).length ≤ 1000) : oddS ins outs many (.tuple [.str s, b]) := ⟨by rw [stn2, decide_eq_false h, Bool.and_false]; rfl, ⟨k, sb⟩, lenO2 (show 0 ≤ 1000 by decide) lb⟩
theorem os_row (h : (elsO b).all (rowB outs many) = false) (k : rdKn (.str s)) (sb : ∀ r ∈ elsO b, shRow r) (lb : (elsO b).length ≤ 1000) : oddS ins outs many (.tuple [.str s, b]) := ⟨by rw [stn2, h, Bool.and_false], ⟨k, sb⟩, lenO2 (show 0 ≤ 1000 by decide) lb⟩
end
theorem rdKnS (r : Rd) : rdKn (.str r.s) := by
  cases r with
  | one => exact .inl rfl
  | two => exact .inr (.inl rfl)
  | both => exact .inr (.inr (.inl rfl))
theorem sh_rw {r : Rw} {outs many : Nat} (h : r.ok outs many) : shRow (rwD r) := sh_gv h.2.1
theorem SR.dic_new {H0 : Hp} {Sz : PyData → Prop} {Z : List Addr} {G : Hp} {vs : List V} {a : Addr} (s : SR H0 Sz Z G vs) (ha : G a = none) : TZ Z (upd G a (.dK [])) (.ref a) (.dict []) := fun z hz => .dic (s.zl.ne hz ha) upd_same
theorem TZs.off {Z : List Addr} {G G' : Hp} {vs : List V} {ds : List PyData} {z : Addr} (h : TZs Z G vs ds) (hz : z ∈ Z) (k : Kp z G G') : TZs Z G' vs ds := fun y hy => TvAll.off k ds (h y hy) (h z hz)
theorem TZs.fresh {Z : List Addr} {G : Hp} {vs : List V} {ds : List PyData} {z a : Addr} (h : TZs Z G vs ds) (hz : z ∈ Z) (ha : G a = none) : TZs (a :: Z) G vs ds := fun y hy => by
  rcases List.mem_cons.mp hy with rfl | hy
  · exact TvAll.at_fresh ha ds (h z hz)
  · exact h y hy
theorem TZs.get {Z : List Addr} {G : Hp} {vs : List V} {ds : List PyData} {i : Nat} {v : V} {d : PyData} (h : TZs Z G vs ds) (hv : vs[i]? = some v) (hd : ds[i]? = some d) : TZ Z G v d := fun z hz => by
  obtain ⟨d', h1, h2⟩ := (h z hz).at hv
  rw [hd] at h1
  obtain rfl := Option.some.inj h1
  exact h2
theorem TZs.app {Z : List Addr} {G : Hp} {vs us : List V} {ds es : List PyData} (h : TZs Z G vs ds) (g : TZs Z G us es) : TZs Z G (vs ++ us) (ds ++ es) := fun z hz => (h z hz).app (g z hz)
def spOddSt : Sp := fun vs H Q _ => ∃ (p : Addr) (v : V) (t : Stn) (i : Nat), vs = [.ref p, v, .int (i : Nat)] ∧ Pot p H ∧ Tv p H v (stD t) ∧ t.ok ∧ i < t.stgs.length ∧
  ∀ H' L us, Kp p H H' → Pot p H' → L ≠ p → H' L = some (.lst us) → AllZ (oddS t.ins t.outs t.stgs.length) [p] H' us → 0 < us.length → us.length ≤ 50 → Q (.ref L) H'
/-- a told model, taken apart -/
theorem st_tv {p : Addr} {H : Hp} {v : V} {t : Stn} (h : Tv p H v (stD t)) : ∃ a F us, v = .ref a ∧ a ≠ p ∧ H a = some (.tup [.int (t.ins : Nat), .int (t.outs : Nat), .ref F]) ∧ F ≠ p ∧ H F = some (.lst us) ∧ TvAll p H us (t.stgs.map toD) := by
  obtain ⟨a, xs, rfl, na, ha, hs⟩ := tv_tup h
  obtain ⟨x, y, z, rfl, h1, h2, h3⟩ := tvs_three hs
  cases h1
  cases h2
  obtain ⟨F, us, rfl, nF, hF, hus⟩ := tv_lst h3
  exact ⟨a, F, us, rfl, na, ha, nF, hF, hus⟩
theorem to_tv {p : Addr} {H : Hp} {v : V} {S : Sg} (h : Tv p H v (toD S)) : ∃ e q ws, v = .ref e ∧ e ≠ p ∧ H e = some (.tup [.str S.reads.s, .ref q]) ∧ q ≠ p ∧ H q = some (.lst ws) ∧ TvAll p H ws (S.rows.map rwD) := by
  obtain ⟨a, xs, rfl, na, ha, hs⟩ := tv_tup h
  obtain ⟨x, y, rfl, h1, h2⟩ := tvs_two hs
  cases h1
  obtain ⟨q, ws, rfl, nq, hq, hws⟩ := tv_lst h2
  exact ⟨a, q, ws, rfl, na, ha, nq, hq, hws⟩
theorem cut_t1 (xs : List V) : cutV xs none (some 1) = xs.take 1 := by
  unfold cutV
  rw [show HT.sIx xs.length 0 none = 0 from rfl, show HT.sIx xs.length xs.length (some 1) = min 1 xs.length from HT.sIx_nat _ _ 1]
  show (xs.drop 0).take _ = _
  rw [List.drop_zero, Nat.sub_zero]
  cases xs with
  | nil => rfl
  | cons x r =>
    have : min 1 (x :: r).length = 1 := by rw [List.length_cons]; omega
    rw [this]
theorem cut_tn (xs : List V) (n : Nat) : cutV xs none (some (n : Nat)) = xs.take n := by
  unfold cutV
  rw [show HT.sIx xs.length 0 none = 0 from rfl, HT.sIx_nat]
  show (xs.drop 0).take _ = _
  rw [List.drop_zero, Nat.sub_zero]
  by_cases h : n ≤ xs.length
  · rw [Nat.min_eq_left h]
  · rw [Nat.min_eq_right (by omega), List.take_of_length_le (Nat.le_refl _), List.take_of_length_le (by omega)]
theorem cut_dn (xs : List V) (n : Nat) : cutV xs (some (n : Nat)) none = xs.drop n := by
  unfold cutV
  rw [HT.sIx_nat, show HT.sIx xs.length xs.length none = xs.length from rfl]
  by_cases h : n ≤ xs.length
  · rw [Nat.min_eq_left h, List.take_of_length_le (by rw [List.length_drop]; exact Nat.le_refl _)]
  · rw [Nat.min_eq_right (by omega), Nat.sub_self, List.take_zero, List.drop_eq_nil_of_le (by omega)]
section
variable {P : Program} {w : World} {K : PySem.W.Frag} {mg : Str → Option Value} {base : Heap} {aS a1 a2 aL aT : Addr} {f : Addr} {fd : FuncData} {C CD CY : Addr} {mc : Value}
abbrev s_law_odd_standings : Stmt := top 36
abbrev N_law_odd_standings : List Str := ["_law_pot_here", "_law_model_here", "_law_at", "_law_told", "_law_rows", "_law_some", "_law_spot", "_law_odd"]
theorem sc_law_odd_standings : FnScope N_law_odd_standings ["_law_pot_here", "_law_model_here", "_law_at"] (defScope s_law_odd_standings) := ⟨rfl, rfl, rfl, by decide +kernel, rfl, by decide +kernel, by decide +kernel⟩
theorem ok_law_odd_standings (F : Fun K "_law_odd_standings" "_law_odd_standings" s_law_odd_standings f fd) (T : Txt K mg aS a1 a2) (c__law_draw : C8.Cal P w K mg base 1 "_law_draw" spDraw []) (c__law_odd_rows : C8.Cal P w K mg base 1 "_law_odd_rows" spOddRows []) : FnOk P w K mg base CX0 2 f fd ["_law_pot_here", "_law_model_here", "_law_at"] spOddSt := by
  refine F.ok sc_law_odd_standings (fun vs H Q E h => ?_) (fun cdv A outer s H vs Q E hr h => ?_)
  · obtain ⟨p, v, t, i, rfl, _⟩ := h
    rfl
  obtain ⟨p, v, t, i, rfl, p0, tv0, tok, il, q⟩ := h
  refine ⟨_, (pss_cons (ps_asg (pe_ix (kIxL K rfl) (pe_ix (kIxT K rfl) (pv 1) pe_int (fun _ _ => rfl)) (pv 2) (fun _ _ => rfl)) (kTupG (n := 2) K rfl rfl (pgs_cons (pg_name (i := 3) sc_law_odd_standings.nd rfl (Or.inl rfl)) (pgs_cons (pg_name (i := 4) sc_law_odd_standings.nd rfl (Or.inl rfl)) pgs_nil))))
        (pss_cons (ps_set (i := 5) sc_law_odd_standings.nd rfl (Or.inl rfl) (pe_lst (pa_cons pe_non (pa_cons pe_str (pa_cons (pe_lst (pa_cons (pv 3) (pa_cons (pv 4) pa_nil))) (pa_cons (pe_tup (pa_cons (pv 3) pa_nil)) (pa_cons (pe_tup (pa_cons (pv 3) (pa_cons (pv 4) (pa_cons pe_int pa_nil)))) (pa_cons (pe_tup (pa_cons pe_str (pa_cons (pv 4) pa_nil))) (pa_cons (pe_tup (pa_cons pe_str (pa_cons (pv 4) pa_nil))) (pa_cons (pe_tup (pa_cons pe_int (pa_cons (pv 4) pa_nil))) (pa_cons (pe_tup (pa_cons pe_non (pa_cons (pv 4) pa_nil))) pa_nil)))))))))))
        (pss_cons (ps_set (i := 5) sc_law_odd_standings.nd rfl (Or.inl rfl) (pe_op op_cat (pv 5) (pe_lst (pa_cons (pe_tup (pa_cons (pv 3) (pa_cons pe_non pa_nil))) (pa_cons (pe_tup (pa_cons (pv 3) (pa_cons (pe_slice (kSlL K rfl) (pv 4) po_none (po_some (pe_un un_neg pe_int))) pa_nil))) (pa_cons (pe_tup (pa_cons (pv 3) (pa_cons (pe_op op_cat (pv 4) (pe_slice (kSlL K rfl) (pv 4) po_none (po_some pe_int))) pa_nil))) (pa_cons (pe_tup (pa_cons (pv 3) (pa_cons (pe_lst pa_nil) pa_nil))) (pa_cons (pe_tup (pa_cons (pv 3) (pa_cons pe_dnewK pa_nil))) (pa_cons (pe_tup (pa_cons (pv 3) (pa_cons pe_str pa_nil))) (pa_cons (pe_tup pa_nil) pa_nil))))))))))
        (pss_cons (ps_if (pt_cmpR op_eq (pe_ix (kIxT K rfl) (pv 1) pe_int (fun _ _ => rfl)) pe_int (nomark _))
        (pss_one (ps_set (i := 5) sc_law_odd_standings.nd rfl (Or.inl rfl) (pe_op op_cat (pv 5) (pe_lst (pa_cons (pe_tup (pa_cons pe_str (pa_cons (pv 4) pa_nil))) (pa_cons (pe_tup (pa_cons pe_str (pa_cons (pe_op op_cat (pv 4) (pv 4)) pa_nil))) pa_nil))))))
        pss_nil)
        (pss_cons (ps_set (i := 6) sc_law_odd_standings.nd rfl (Or.inl rfl) (C8.pe_c c__law_draw hr (by decide) rfl (pa_cons (pv 0) (pa_cons (pe_callB (kLen K rfl) rfl T.b_len bt_len (pa_cons (pv 4) pa_nil)) pa_nil))))
        (pss_cons (ps_for PassesOwn.never rfl (kList K rfl (C8.pe_c c__law_odd_rows hr (by decide) rfl (pa_cons (pe_ix (kIxL K rfl) (pv 4) (pv 6) (fun _ _ => rfl)) (pa_cons (pe_callB (kLen K rfl) rfl T.b_len bt_len (pa_cons (pe_ix (kIxT K rfl) (pv 1) pe_int (fun _ _ => rfl)) pa_nil)) pa_nil)))) (pg_name (i := 7) sc_law_odd_standings.nd rfl (Or.inl rfl))
        (pss_one (ps_expr (kBm K rfl PySem.F.plainAttrs_list PySem.F.slot_list_append PySem.F.type_list_append mt_append (pv 5) (pa_cons (pe_tup (pa_cons (pv 3) (pa_cons (pe_op op_cat (pe_op op_cat (pe_slice (kSlL K rfl) (pv 4) po_none (po_some (pv 6))) (pe_lst (pa_cons (pv 7) pa_nil))) (pe_slice (kSlL K rfl) (pv 4) (po_some (pe_op op_add (pv 6) pe_int)) po_none)) pa_nil))) pa_nil)))))
        (pss_one (ps_ret (pv 5))))))))), ?_⟩
  obtain ⟨a, F0, us, rfl, na, ha, nF, hF, hus⟩ := st_tv tv0
  have hS := List.getElem?_eq_getElem il
  generalize t.stgs[i] = S at hS
  have sok := tok.sg S (List.mem_of_getElem? hS)
  obtain ⟨u, hu, tvu⟩ := hus.get (i := i) (d := toD S) (by rw [List.getElem?_map, hS]; rfl)
  obtain ⟨e, qq, ws, rfl, ne, he, nq, hq, hws⟩ := to_tv tvu
  obtain ⟨k1, k2, k3⟩ := id sok
  have lws : ws.length = S.reads.many := by rw [hws.len, List.length_map, k2]
  have m1 : 2 ≤ S.reads.many := by cases S.reads <;> decide
  have m2 : S.reads.many ≤ 4 := by cases S.reads <;> decide
  have kn := rdKnS S.reads
  have em : manyR (.str S.reads.s) = S.reads.many := manyRd _
  have shR : ∀ r ∈ S.rows.map rwD, shRow r := fun r hr => by
    obtain ⟨x, hx, rfl⟩ := List.mem_map.mp hr
    exact sh_rw (k3 x hx)
  have lR : (S.rows.map rwD).length = S.reads.many := by rw [List.length_map, k2]
  have zl0 : ZL [p] H := fun z hz => by
    rw [List.mem_singleton.mp hz]
    obtain ⟨x, y, h, _⟩ := p0
    exact ⟨_, h⟩
  have st0 : SR H (oddS t.ins t.outs t.stgs.length) [p] H [] := ⟨fun _ _ e => e, zl0, AllZ.nil⟩
  have tzq : ∀ {G : Hp}, Same H G → TZ [p] G (.ref qq) (.list (S.rows.map rwD)) := fun s z hz => by
    rw [List.mem_singleton.mp hz]
    exact (Tv.lst nq hq hws).same s
  have t2 : ∀ {G : Hp} {x y : V} {dx dy : PyData}, TZ [p] G x dx → TZ [p] G y dy → TZs [p] G [x, y] [dx, dy] := fun h1 h2 => TZs.cons h1 (TZs.one h2)
  refine ⟨_, rfl, _, _, _, _, rfl, rfl, SqT.of ha, atI_nat (j := 2) rfl, _, rfl, _, _, _, _, rfl, rfl, SqL.of hF, atI_nat hu, _, _, rfl, SqT.of he, rfl, _, _, rfl, _, _, rfl, rfl, tNext_i ?_⟩
  dsimp only
  have tzw : ∀ {G : Hp}, Same H G → TZs [p] G ws (S.rows.map rwD) := fun s z hz => by
    rw [List.mem_singleton.mp hz]
    exact hws.same s
  -- the first
  refine seq_split (fun τ G => ∃ (L : Addr) (vs : List V), τ = [some (.ref p), some (.ref a), some (.int (i : Nat)), some (.str S.reads.s), some (.ref qq), some (.ref L), none, none] ∧ SR H (oddS t.ins t.outs t.stgs.length) [p] G vs ∧ vs.length = 9 ∧ H L = none ∧ G L = some (.lst vs)) (fun D1 hD1 => ?_) ?_
  · have st := st0.add (v := .non) tz_non ⟨rfl, trivial, rfl⟩
    replace st := st.add (v := .str "1") (tz_str "1") ⟨rfl, trivial, rfl⟩
    refine ⟨_, rfl, _, rfl, sz rfl, fun C1 hC1 => ?_⟩
    replace st := st.lst hC1 (t2 (tz_str S.reads.s) (tzq st.sm)) ⟨rfl, trivial, lenO2 (show 0 ≤ 1000 by decide) (by show (S.rows.map rwD).length ≤ 1000; omega)⟩
    refine ⟨_, rfl, sz rfl, fun C2 hC2 => ?_⟩
    replace st := st.tup hC2 (TZs.one (tz_str S.reads.s)) ⟨rfl, trivial, rfl⟩
    refine ⟨_, rfl, _, rfl, sz rfl, fun C3 hC3 => ?_⟩
    replace st := st.tup hC3 (TZs.cons (tz_str S.reads.s) (TZs.cons (tzq st.sm) (TZs.one (tz_int 0)))) ⟨rfl, trivial, by
      show ([PyData.str S.reads.s, .list (S.rows.map rwD), .int 0].all fun b => decide ((elsO b).length ≤ 1000)) = true
      have : (elsO (.list (S.rows.map rwD))).length ≤ 1000 := by show (S.rows.map rwD).length ≤ 1000; omega
      simp [this, elsO]
      omega⟩
    have lq : (elsO (.list (S.rows.map rwD))).length ≤ 1000 := by show (S.rows.map rwD).length ≤ 1000; omega
    refine ⟨_, rfl, sz rfl, fun C4 hC4 => ?_⟩
    replace st := st.tup hC4 (t2 (tz_str "3") (tzq st.sm)) (os_rd (rd3 _) (.inr (.inr (.inr (.inl rfl)))) rfl shR lq)
    refine ⟨_, rfl, sz rfl, fun C5 hC5 => ?_⟩
    replace st := st.tup hC5 (t2 (tz_str "21") (tzq st.sm)) (os_rd (rd21 _) (.inr (.inr (.inr (.inr rfl)))) rfl shR lq)
    refine ⟨_, rfl, sz rfl, fun C6 hC6 => ?_⟩
    replace st := st.tup hC6 (t2 (tz_int 1) (tzq st.sm)) (os_rd rfl trivial rfl shR lq)
    refine ⟨_, rfl, sz rfl, fun C7 hC7 => ?_⟩
    replace st := st.tup hC7 (t2 tz_non (tzq st.sm)) (os_rd rfl trivial rfl shR lq)
    refine ⟨sz rfl, fun N hN => ?_⟩
    exact hD1 _ _ ⟨N, _, rfl, st.same (same_new hN _), rfl, none_ofS st.sm hN, upd_same⟩
  rintro τ H1 ⟨S1, vs1, rfl, st1, lv1, fS1, hS1⟩
  have lq : (elsO (.list (S.rows.map rwD))).length ≤ 1000 := by show (S.rows.map rwD).length ≤ 1000; omega
  -- more
  refine seq_split (fun τ G => ∃ (L : Addr) (vs : List V), τ = [some (.ref p), some (.ref a), some (.int (i : Nat)), some (.str S.reads.s), some (.ref qq), some (.ref L), none, none] ∧ SR H (oddS t.ins t.outs t.stgs.length) [p] G vs ∧ AllZ (oddS t.ins t.outs t.stgs.length) [L, p] G vs ∧ vs.length = 16 ∧ H L = none ∧ G L = some (.lst vs)) (fun D1 hD1 => ?_) ?_
  · have st : SR H (oddS t.ins t.outs t.stgs.length) [p] H1 [] := ⟨st1.sm, st1.zl, AllZ.nil⟩
    have kp0 : Same H1 H1 := fun _ _ e => e
    refine ⟨_, rfl, ?_⟩
    refine ⟨_, rfl, sz rfl, fun C1 hC1 => ?_⟩
    replace kp0 := kp0.trans' (same_new hC1 (.tup [.str S.reads.s, .non]))
    replace st := st.tup hC1 (t2 (tz_str S.reads.s) tz_non) (os_sq rfl kn rfl)
    refine ⟨_, rfl, _, rfl, _, rfl, _, rfl, qq, _, rfl, SqL.of (st.sm _ _ hq), fun X2 hX2 => ⟨sz rfl, fun C2 hC2 => ?_⟩⟩
    have tl := st.tz_new hX2 (xs := cutV ws none (some (-1))) (ds := (S.rows.map rwD).dropLast) (fun z hz => by rw [cut_m1]; exact tv_dropLast (tzw st.sm z hz))
    replace kp0 := kp0.trans' ((same_new hX2 (.lst (cutV ws none (some (-1))))).trans' (same_new hC2 (.tup [.str S.reads.s, .ref X2])))
    replace st := (st.same (same_new hX2 (.lst (cutV ws none (some (-1)))))).tup hC2 (t2 (tz_str S.reads.s) tl) (os_len (by show ((S.rows.map rwD).dropLast).length ≠ _; rw [List.length_dropLast]; omega) kn (fun r hr => shR r (List.mem_of_mem_take (List.dropLast_eq_take ▸ hr))) (by show ((S.rows.map rwD).dropLast).length ≤ 1000; rw [List.length_dropLast]; omega))
    refine ⟨_, rfl, _, rfl, _, rfl, _, rfl, qq, _, rfl, SqL.of (st.sm _ _ hq), fun X3 hX3 => ?_⟩
    rw [cut_t1]
    have n3 := same_new hX3 (.lst (ws.take 1))
    refine ⟨qq, X3, ws, _, rfl, rfl, n3 _ _ (st.sm _ _ hq), upd_same, by rw [lws, List.length_take]; exact Nat.le_trans (show _ ≤ 8 by omega) (by decide), fun Y3 hY3 => ⟨sz rfl, fun C3 hC3 => ?_⟩⟩
    replace kp0 := kp0.trans' n3
    replace st := st.same n3
    have tl3 := st.tz_new hY3 (xs := ws ++ ws.take 1) (ds := S.rows.map rwD ++ (S.rows.map rwD).take 1) (fun z hz => (tzw st.sm z hz).app ((tzw st.sm z hz).take 1))
    replace kp0 := kp0.trans' ((same_new hY3 (.lst (ws ++ ws.take 1))).trans' (same_new hC3 (.tup [.str S.reads.s, .ref Y3])))
    replace st := (st.same (same_new hY3 (.lst (ws ++ ws.take 1)))).tup hC3 (t2 (tz_str S.reads.s) tl3) (os_len (by show (S.rows.map rwD ++ (S.rows.map rwD).take 1).length ≠ _; rw [List.length_append, List.length_take]; omega) kn (fun r hr => (List.mem_append.mp hr).elim (shR r) fun hr => shR r (List.mem_of_mem_take hr)) (by show (S.rows.map rwD ++ (S.rows.map rwD).take 1).length ≤ 1000; rw [List.length_append, List.length_take]; omega))
    refine ⟨_, rfl, sz rfl, fun X4 hX4 => ⟨sz rfl, fun C4 hC4 => ?_⟩⟩
    have tl4 := st.tz_new hX4 (xs := []) (ds := []) TZs.nil
    replace kp0 := kp0.trans' ((same_new hX4 (.lst [])).trans' (same_new hC4 (.tup [.str S.reads.s, .ref X4])))
    replace st := (st.same (same_new hX4 (.lst []))).tup hC4 (t2 (tz_str S.reads.s) tl4) (os_len (by show 0 ≠ _; omega) kn (fun r hr => nomatch hr) (by show 0 ≤ 1000; decide))
    refine ⟨_, rfl, fun X5 hX5 => ⟨sz rfl, fun C5 hC5 => ?_⟩⟩
    have tl5 := st.dic_new hX5
    replace kp0 := kp0.trans' ((same_new hX5 (.dK [])).trans' (same_new hC5 (.tup [.str S.reads.s, .ref X5])))
    replace st := (st.same (same_new hX5 (.dK []))).tup hC5 (t2 (tz_str S.reads.s) tl5) (os_sq rfl kn rfl)
    refine ⟨_, rfl, sz rfl, fun C6 hC6 => ?_⟩
    replace kp0 := kp0.trans' (same_new hC6 (.tup [.str S.reads.s, .str "00"]))
    replace st := st.tup hC6 (t2 (tz_str S.reads.s) (tz_str "00")) (os_sq rfl kn rfl)
    refine ⟨sz rfl, fun C7 hC7 => ?_⟩
    replace kp0 := kp0.trans' (same_new hC7 (.tup []))
    replace st := st.tup hC7 TZs.nil ⟨rfl, trivial, rfl⟩
    refine ⟨sz rfl, fun N hN => ?_⟩
    refine ⟨S1, N, vs1, _, rfl, rfl, (kp0.trans' (same_new hN _)) _ _ hS1, upd_same, by rw [lv1]; exact Nat.le_trans (Nat.add_le_add_left (show _ ≤ 7 by simp) _) (by decide), fun M hM => ?_⟩
    exact hD1 _ _ ⟨M, _, rfl, ⟨((st.same (same_new hN _)).same (same_new hM _)).sm, ((st.same (same_new hN _)).same (same_new hM _)).zl, (((st1.az.same kp0).same (same_new hN _)).same (same_new hM _)).app ((st.same (same_new hN _)).same (same_new hM _)).az⟩, ((((st1.az.same kp0).same (same_new hN _)).app (st.same (same_new hN _)).az).fresh (List.mem_singleton.mpr rfl) hM).same (same_new hM _), by rw [List.length_append, lv1]; rfl, none_ofS st.sm (none_ofS (same_new hN _) hM), upd_same⟩
  rintro τ H2 ⟨S2, vs2, rfl, st2, az2, lv2, fS2, hS2⟩
  -- one line
  refine seq_split (fun τ G => ∃ (L : Addr) (vs : List V), τ = [some (.ref p), some (.ref a), some (.int (i : Nat)), some (.str S.reads.s), some (.ref qq), some (.ref L), none, none] ∧ SR H (oddS t.ins t.outs t.stgs.length) [p] G vs ∧ AllZ (oddS t.ins t.outs t.stgs.length) [L, p] G vs ∧ vs.length ≤ 18 ∧ 0 < vs.length ∧ H L = none ∧ G L = some (.lst vs)) (fun D1 hD1 => ?_) ?_
  · refine ⟨_, rfl, _, _, _, _, rfl, rfl, SqT.of (st2.sm _ _ ha), atI_nat (j := 0) rfl, rfl, _, rfl, ?_⟩
    by_cases i1 : t.ins = 1
    case neg =>
      exact iteFd (decide_eq_false fun e => i1 (by have := V.int.inj e; omega)) (hD1 _ _ ⟨S2, vs2, rfl, st2, az2, by omega, by omega, fS2, hS2⟩)
    refine iteTd (by rw [i1]; rfl) ?_
    have st : SR H (oddS t.ins t.outs t.stgs.length) [p] H2 [] := ⟨st2.sm, st2.zl, AllZ.nil⟩
    have kp0 : Same H2 H2 := fun _ _ e => e
    refine ⟨_, rfl, _, rfl, sz rfl, fun C1 hC1 => ?_⟩
    replace kp0 := kp0.trans' (same_new hC1 (.tup [.str "2", .ref qq]))
    replace st := st.tup hC1 (t2 (tz_str "2") (tzq st.sm)) (os_rd (by rw [rd2, i1]; rfl) (.inr (.inl rfl)) rfl shR lq)
    refine ⟨_, rfl, _, rfl, qq, qq, ws, ws, rfl, rfl, st.sm _ _ hq, st.sm _ _ hq, by rw [lws]; exact Nat.le_trans (show _ ≤ 8 by omega) (by decide), fun Y hY => ⟨sz rfl, fun C2 hC2 => ?_⟩⟩
    have tl := st.tz_new hY (xs := ws ++ ws) (ds := S.rows.map rwD ++ S.rows.map rwD) (fun z hz => (tzw st.sm z hz).app (tzw st.sm z hz))
    replace kp0 := kp0.trans' ((same_new hY (.lst (ws ++ ws))).trans' (same_new hC2 (.tup [.str "12", .ref Y])))
    replace st := (st.same (same_new hY (.lst (ws ++ ws)))).tup hC2 (t2 (tz_str "12") tl) (os_rd (by rw [rd12, i1]; rfl) (.inr (.inr (.inl rfl))) rfl (fun r hr => (List.mem_append.mp hr).elim (shR r) (shR r)) (by show (S.rows.map rwD ++ S.rows.map rwD).length ≤ 1000; rw [List.length_append]; omega))
    refine ⟨sz rfl, fun N hN => ?_⟩
    refine ⟨S2, N, vs2, _, rfl, rfl, (kp0.trans' (same_new hN _)) _ _ hS2, upd_same, by rw [lv2]; exact Nat.le_trans (Nat.add_le_add_left (show _ ≤ 7 by simp) _) (by decide), fun M hM => ?_⟩
    exact hD1 _ _ ⟨M, _, rfl, ⟨((st.same (same_new hN _)).same (same_new hM _)).sm, ((st.same (same_new hN _)).same (same_new hM _)).zl, (((st2.az.same kp0).same (same_new hN _)).same (same_new hM _)).app ((st.same (same_new hN _)).same (same_new hM _)).az⟩, ((((st2.az.same kp0).same (same_new hN _)).app (st.same (same_new hN _)).az).fresh (List.mem_singleton.mpr rfl) hM).same (same_new hM _), by rw [List.length_append, lv2]; exact Nat.le_refl 18, by rw [List.length_append, lv2]; omega, none_ofS st.sm (none_ofS (same_new hN _) hM), upd_same⟩
  rintro τ H3 ⟨S3, vs3, rfl, st3, az3, lv3, lv3', fS3, hS3⟩
  -- where
  refine seq_split (fun τ G => ∃ sp : Nat, sp < ws.length ∧ τ = [some (.ref p), some (.ref a), some (.int (i : Nat)), some (.str S.reads.s), some (.ref qq), some (.ref S3), some (.int (sp : Nat)), none] ∧ Kp p H3 G ∧ Pot p G) (fun D1 hD1 => ?_) ?_
  · refine ⟨_, rfl, _, rfl, _, _, rfl, .inl (SqL.of (st3.sm _ _ hq)), ?_⟩
    dsimp only [tNil]
    refine ⟨p, _, rfl, p0.same st3.sm, by omega, by omega, fun d G d0 d1 k p1 => ?_⟩
    obtain ⟨sp, rfl⟩ := Int.eq_ofNat_of_zero_le d0
    exact hD1 _ _ ⟨sp, by omega, rfl, k, p1⟩
  rintro τ H4 ⟨sp, lsp, rfl, k4, p4⟩
  have nS3 : S3 ≠ p := fun z => by
    obtain ⟨x, y, h, _⟩ := p0
    rw [z, h] at fS3
    cases fS3
  have az4 := az3.off (List.mem_cons_of_mem _ (List.mem_singleton.mpr rfl)) k4
  have hS4 := k4 _ _ nS3 hS3
  have k04 : Kp p H H4 := (Kp.of st3.sm).trans k4
  have tw0 : TZs [S3, p] H ws (S.rows.map rwD) := TZs.fresh (z := p) (tzw fun _ _ e => e) (List.mem_singleton.mpr rfl) fS3
  have tw4 : TZs [S3, p] H4 ws (S.rows.map rwD) := (tw0.same st3.sm).off (List.mem_cons_of_mem _ (List.mem_singleton.mpr rfl)) k4
  have zl4 : ZL [S3, p] H4 := fun z hz => by
    rcases List.mem_cons.mp hz with rfl | hz
    · exact ⟨_, hS4⟩
    · rw [List.mem_singleton.mp hz]
      obtain ⟨x, y, h, _⟩ := p4
      exact ⟨_, h⟩
  have hv := List.getElem?_eq_getElem lsp
  have lsp2 : sp < S.rows.length := by rw [k2]; omega
  have hr' := List.getElem?_eq_getElem lsp2
  have tzr := tw4.get (d := rwD S.rows[sp]) hv (by rw [List.getElem?_map, hr']; rfl)
  have rok := k3 _ (List.mem_of_getElem? hr')
  have lus := hus.len
  rw [List.length_map] at lus
  have o1 := tok.o1
  have o2 := tok.o2
  have t4 := tok.m2
  refine ⟨_, rfl, _, rfl, _, _, _, _, rfl, rfl, SqL.of (k04 _ _ nq hq), atI_nat hv, _, rfl, _, _, _, _, rfl, rfl, SqT.of (k04 _ _ na ha), atI_nat (j := 2) rfl, _, _, rfl, .inl (SqL.of (k04 _ _ nF hF)), ?_⟩
  dsimp only [tNil]
  rw [lus]
  refine ⟨p, _, S.rows[sp], t.outs, t.stgs.length, [S3, p], rfl, p4, List.mem_cons_of_mem _ (List.mem_singleton.mpr rfl), zl4, tzr, rok, o1, o2, t4, fun H5 L5 us5 s5 f5 hL5 az5 l5 => ?_⟩
  have nL5 : L5 ≠ S3 := fun z => by rw [z, hS4] at f5; cases f5
  have nL5p : L5 ≠ p := p4.ne f5
  have p5 := p4.same s5
  have all_row : ∀ d, oddR t.outs t.stgs.length d → ∀ A B : List PyData, (A ++ [d] ++ B).all (rowB t.outs t.stgs.length) = false := fun d hd A B => by
    rw [List.all_append, List.all_append, List.all_cons, hd.1, Bool.false_and, Bool.and_false, Bool.false_and]
  refine ⟨L5, rfl, ⟨us5, SqL.of hL5⟩, for_it (D := { nx := tRet (tVar 5) { nx := fun _ H' => Q V.non H', rt := Q }, rt := Q }) walk_list (fun j τ G => ∃ (o7 : Option V) (vs : List V), τ = [some (.ref p), some (.ref a), some (.int (i : Nat)), some (.str S.reads.s), some (.ref qq), some (.ref S3), some (.int (sp : Nat)), o7] ∧ G S3 = some (.lst vs) ∧ AllZ (oddS t.ins t.outs t.stgs.length) [S3, p] G vs ∧ 0 < vs.length ∧ vs.length ≤ 18 + j ∧ TZs [S3, p] G ws (S.rows.map rwD) ∧ AllZ (oddR t.outs t.stgs.length) [S3, p] G us5 ∧ G L5 = some (.lst us5) ∧ Kp p H G ∧ Pot p G) ⟨_, vs3, rfl, s5 _ _ hS4, az4.same s5, lv3', by omega, tw4.same s5, az5, hL5, k04.trans (Kp.of s5), p5⟩ (fun j τ G _ ⟨_, _, _, _, _, _, _, _, _, e, _⟩ => SqL.of e) ?_ ?_⟩
  · rintro j x τ G1 G2 hj ⟨o7, vs, rfl, hSv, azv, lv0, lvj, twG, azG, hLG, kG, pG⟩ ⟨rfl, hx⟩
    obtain ⟨d, tzx, hod⟩ := azG x (List.mem_of_getElem? hx)
    refine ⟨_, rfl, .inl ⟨rfl, _, SqL.of hSv⟩, ?_⟩
    have hqG := kG _ _ nq hq
    have zlG : ZL [S3, p] G2 := fun z hz => by
      rcases List.mem_cons.mp hz with rfl | hz
      · exact ⟨_, hSv⟩
      · rw [List.mem_singleton.mp hz]
        obtain ⟨x, y, h, _⟩ := pG
        exact ⟨_, h⟩
    have st : SR G2 (oddS t.ins t.outs t.stgs.length) [S3, p] G2 vs := ⟨fun _ _ e => e, zlG, azv⟩
    refine ⟨_, rfl, _, rfl, _, rfl, _, rfl, qq, _, rfl, SqL.of hqG, fun X1 hX1 => ⟨_, rfl, sz rfl, fun X2 hX2 => ?_⟩⟩
    have n1 := same_new hX1 (.lst (cutV ws none (some (sp : Nat))))
    have n2 := same_new hX2 (.lst [x])
    refine ⟨X1, X2, cutV ws none (some (sp : Nat)), [x], rfl, rfl, n2 _ _ upd_same, upd_same, by rw [cut_tn, List.length_take]; exact Nat.le_trans (show _ ≤ 8 by simp only [List.length_singleton]; omega) (by decide), fun X3 hX3 => ?_⟩
    have n3 := same_new hX3 (.lst (cutV ws none (some (sp : Nat)) ++ [x]))
    refine ⟨_, rfl, _, rfl, _, _, rfl, rfl, _, rfl, qq, _, rfl, SqL.of (n3 _ _ (n2 _ _ (n1 _ _ hqG))), fun X4 hX4 => ?_⟩
    have n4 := same_new hX4 (.lst (cutV ws (some ((sp + 1 : Nat) : Int)) none))
    refine ⟨X3, X4, cutV ws none (some (sp : Nat)) ++ [x], cutV ws (some ((sp + 1 : Nat) : Int)) none, rfl, rfl, n4 _ _ upd_same, upd_same, by rw [cut_tn, cut_dn, List.length_append, List.length_take, List.length_drop]; exact Nat.le_trans (show _ ≤ 8 by simp only [List.length_singleton]; omega) (by decide), fun X5 hX5 => ⟨sz rfl, fun C hC => ?_⟩⟩
    have sm4 : Same G2 _ := ((n1.trans' n2).trans' n3).trans' n4
    replace st := st.same sm4
    have tl := st.tz_new hX5 (xs := cutV ws none (some (sp : Nat)) ++ [x] ++ cutV ws (some ((sp + 1 : Nat) : Int)) none) (ds := (S.rows.map rwD).take sp ++ [d] ++ (S.rows.map rwD).drop (sp + 1)) (by
      have ec : cutV ws none (some (sp : Nat)) ++ [x] ++ cutV ws (some ((sp + 1 : Nat) : Int)) none = ws.take sp ++ [x] ++ ws.drop (sp + 1) := by rw [cut_tn, cut_dn]
      rw [ec]
      have tw' := twG.same sm4
      exact ((tw'.take sp).app (TZs.one (tzx.same sm4))).app (tw'.drop (sp + 1)))
    have n5 := same_new hX5 (.lst (cutV ws none (some (sp : Nat)) ++ [x] ++ cutV ws (some ((sp + 1 : Nat) : Int)) none))
    have n6 := same_new hC (.tup [.str S.reads.s, .ref X5])
    replace st := (st.same n5).tup hC (TZs.cons (tz_str S.reads.s) (TZs.one tl)) (os_row (all_row d hod _ _) kn (fun r hr => by
      rcases List.mem_append.mp hr with hr | hr
      · rcases List.mem_append.mp hr with hr | hr
        · exact shR r (List.mem_of_mem_take hr)
        · rw [List.mem_singleton.mp hr]; exact hod.2
      · exact shR r (List.mem_of_mem_drop hr)) (by
      show ((S.rows.map rwD).take sp ++ [d] ++ (S.rows.map rwD).drop (sp + 1)).length ≤ 1000
      rw [List.length_append, List.length_append, List.length_take, List.length_drop, List.length_singleton]
      omega))
    have sm6 := (sm4.trans' n5).trans' n6
    have hS6 := sm6 _ _ hSv
    refine ⟨_, _, _, rfl, rfl, hS6, Nat.lt_of_lt_of_le (show vs.length < 100000 by rw [l5] at hj; omega) (by decide), ?_⟩
    have kS : ∀ (F : Hp) (o : HO), Kp S3 F (upd F S3 o) := fun F o b u n e => (upd_ne n).trans e
    refine ⟨_, vs ++ [.ref C], rfl, upd_same, st.az.off (List.mem_cons_self ..) (kS _ _), by rw [List.length_append]; omega, by rw [List.length_append, List.length_singleton]; omega, (twG.same sm6).off (List.mem_cons_self ..) (kS _ _), (azG.same sm6).off (List.mem_cons_self ..) (kS _ _), (upd_ne nL5).trans (sm6 _ _ hLG), ?_, ?_⟩
    · exact kp_at (kG.trans (Kp.of sm6)) fS3
    · exact pot_at (pG.same sm6) nS3
  rintro τ G ⟨o7, vs, rfl, hSv, azv, lv0, lvj, twG, azG, hLG, kG, pG⟩
  exact ⟨_, rfl, q G S3 vs kG pG nS3 hSv azv.drop lv0 (by rw [l5] at lvj; omega)⟩
end
end FY


set_option Elab.async false
set_option linter.all false
set_option maxRecDepth 100000
set_option maxHeartbeats 4000000
namespace FY
open PySem L2 FYR
/-! ## calls of defs by name: with keywords, with no repr under way -/
def pick {α : Type} (is : List Nat) (l : List α) : List α := is.filterMap fun i => l[i]?
theorem pick_rel {α β : Type} {R : α → β → Prop} {a : List α} {b : List β} (h : Paired R a b) : ∀ is : List Nat, Paired R (pick is a) (pick is b)
  | [] => .nil
  | i :: r => by
    have ih := pick_rel h r
    unfold pick at ih ⊢
    rw [List.filterMap_cons, List.filterMap_cons]
    cases e : a[i]? with
    | none =>
      have l1 := List.getElem?_eq_none_iff.mp e
      rw [List.getElem?_eq_none_iff.mpr (show b.length ≤ i by rw [← paired_len h]; exact l1)]
      exact ih
    | some x =>
      obtain ⟨y, e2, r2⟩ := paired_get h e
      rw [e2]
      exact .cons r2 ih
structure CalN (P : Program) (w : World) (K : PySem.W.Frag) (mg : Str → Option Value) (base : Heap) (CX : CXT) (k : Nat) (x : Str) (sp : Sp) (n : Nat) (ks : List Str) (is : List Nat) (dvs : List V) : Prop where
  ex : ∃ (f : Addr) (fd : FuncData) (ps : List Str) (g : List Value → List Value → List Value), FnOk P w K mg base CX k f fd ps sp ∧ mg x = some (.ref f) ∧ PySem.W.keepIn K (.ref f) = true ∧ KBn K fd ps n ks g (fun vs zs => pick is (vs ++ (zs ++ dvs)))
structure CalG (P : Program) (w : World) (K : PySem.W.Frag) (mg : Str → Option Value) (base : Heap) (k : Nat) (x : Str) (sp : Sp) : Prop where
  ex : ∃ (f : Addr) (fd : FuncData) (ps : List Str), FnG P w K mg base k f fd ps sp ∧ mg x = some (.ref f) ∧ PySem.W.keepIn K (.ref f) = true ∧ Binds K fd ps []
theorem kbn_D {K : PySem.W.Frag} {x qual : Str} {params : Arguments} {body : List Stmt} {scope : Scope} {dvs : List V} {kws : List (Str × V)} {f : Addr} {fd : FuncData} (F : FunD K x qual params body scope dvs kws f fd) (ps : List Str) (n : Nat) (ks : List Str) (is : List Nat) (hd : dvs ≠ [])
    (h : ∀ (T : Addr) (kV doc pm : Value) (an : Option Addr) (cdv ct : Value) (us its ws : List Value), us.length = n → its.length = dvs.length → ws.length = ks.length →
      ∃ k, bindArgs (PySem.W.fnOf x qual params body scope (.ref T) kV doc pm an cdv ct) ⟨us, ks.zip ws⟩ = seqItems? (.ref T) >>= k ∧ k (some its.toArray) = pure (ps.zip (pick is (us ++ (ws ++ its))))) :
    ∃ g, KBn K fd ps n ks g (fun vs zs => pick is (vs ++ (zs ++ dvs))) := by
  obtain ⟨its, b⟩ := F.kbindsD n ks (fun vs ds zs => pick is (vs ++ (zs ++ ds))) hd (fun r1 r2 r3 => pick_rel (paired_app r1 (paired_app r3 r2)) is) h
  exact ⟨_, b⟩
theorem kbn_F {K : PySem.W.Frag} {x qual : Str} {st : Stmt} {f : Addr} {fd : FuncData} (F : Fun K x qual st f fd) (ps : List Str) (n : Nat) (ks : List Str) (is : List Nat)
    (h : ∀ (kV doc pm : Value) (an : Option Addr) (cdv ct : Value) (us ws : List Value), us.length = n → ws.length = ks.length → bindArgs (PySem.W.fnOf x qual (defArgs st) (defBody st) (defScope st) .none kV doc pm an cdv ct) ⟨us, ks.zip ws⟩ = pure (ps.zip (pick is (us ++ (ws ++ []))))) :
    ∃ g, KBn K fd ps n ks g (fun vs zs => pick is (vs ++ (zs ++ []))) := by
  obtain ⟨oc, od, kV, doc, pm, an, cdv, ct, osl, rfl, lk, hcd⟩ := F.ex
  refine ⟨fun us ws => pick is (us ++ (ws ++ [])), ⟨fun s us ws _ hu hw => .of_eq (h kV doc pm an cdv ct us ws hu hw), fun r1 r2 => pick_rel (paired_app r1 (paired_app r2 .nil)) is⟩⟩
section
variable {X : Cx} {CX : CXT} {k j n : Nat} {x : Str} {sp : Sp} {ks : List Str} {is : List Nat} {dvs : List V} {p pos : Pos} {kws : List Keyword} {tk t : L2.TA} {e : Expr} {es : List Expr} {E : XK}
theorem pe_cN (c : CalN X.prog X.w X.K X.mg X.base CX k x sp n ks is dvs) (hr : Room j X.A) (hk : k ≤ j) (hg : Gl X x) (hx : Passes CX X E) (ha : PA X (e :: es) t) (hkw : PK X kws tk) (hall : (backToKw pos (keywordEach kws X.env)).all (·.1.isSome) = true := by rfl) (hks : (backToKw pos (keywordEach kws X.env)).filterMap (·.1) = ks := by rfl)
    (hdb : (x == ("__debug__" : Str)) = false := by decide) (he : starEach (e :: es) X.env = (false, eval e X.env) :: starEach es X.env := by rfl)
    (hpl : ((backTo pos (starEach (e :: es) X.env)).any (·.1) || (backToKw pos (keywordEach kws X.env)).any (·.1.isNone)) = false := by rfl) :
    PE X (.Call (.Name x p) (e :: es) kws pos) (tCallN n ks.length sp (fun vs zs => pick is (vs ++ (zs ++ dvs))) E t tk) := by
  obtain ⟨f, fd, ps, g, F, hm, kp, b⟩ := c.ex
  exact pe_callN F (hr.mono hk) hg hm kp b hx ha hkw hall hks hdb he hpl
theorem pe_cN0 (c : CalN X.prog X.w X.K X.mg X.base CX k x sp 0 ks is dvs) (hr : Room j X.A) (hk : k ≤ j) (hg : Gl X x) (hx : Passes CX X E) (hkw : PK X kws tk) (hall : (backToKw pos (keywordEach kws X.env)).all (·.1.isSome) = true := by rfl) (hks : (backToKw pos (keywordEach kws X.env)).filterMap (·.1) = ks := by rfl)
    (hdb : (x == ("__debug__" : Str)) = false := by decide)
    (hpl : ((backTo pos (starEach [] X.env)).any (·.1) || (backToKw pos (keywordEach kws X.env)).any (·.1.isNone)) = false := by rfl) : PE X (.Call (.Name x p) [] kws pos) (tCallN0 ks.length sp (fun vs zs => pick is (vs ++ (zs ++ dvs))) E tk) := by
  obtain ⟨f, fd, ps, g, F, hm, kp, b⟩ := c.ex
  exact pe_callN0 F (hr.mono hk) hg hm kp b hx hkw hall hks hdb hpl
theorem pe_cG (c : CalG X.prog X.w X.K X.mg X.base k x sp) (hgd : X.A.guards = some []) (hr : Room j X.A) (hk : k ≤ j) (hg : Gl X x) (ha : PA X (e :: es) t)
    (hdb : (x == ("__debug__" : Str)) = false := by decide) (he : starEach (e :: es) X.env = (false, eval e X.env) :: starEach es X.env := by rfl) (hpl : (backTo pos (starEach es X.env)).any (·.1) = false := by rfl) :
    PE X (.Call (.Name x p) (e :: es) [] pos) (tCall sp [] C8.E0 t) := by
  obtain ⟨f, fd, ps, F, hm, kp, b⟩ := c.ex
  exact pe_callG F hgd (hr.mono hk) hg hm kp b ha hdb he hpl
end
/-! ## tables -/
theorem fnC_of {P : Program} {w : World} {K : PySem.W.Frag} {mg : Str → Option Value} {base : Heap} {x qual : Str} {st : Stmt} {f : Addr} {fd : FuncData} {N ps : List Str} {k : Nat} {sp : Sp} {cv : Value} (F : Fun K x qual st f fd) (hcv : fd.code = cv) (S : FnScope N ps (defScope st)) (len : ∀ vs H Q E, sp vs H Q E → vs.length = ps.length)
    (hbody : ∀ (A : Around) (outer : List Env) (s : Shared) (H : Hp) (vs : List V) (Q : VK) (E : XK), Room k (A.deeper (PyProof.Rows.envOfC qual (defScope st) s.heap.objs.size f cv)) → sp vs H Q E →
      ∃ t, PSs (cxOf CX0 P w K mg base N qual (defScope st) f cv A outer s H E).nox (defBody st) t ∧ t { nx := fun _ H' => Q .non H', rt := Q } (L2.start N vs) H) : FnOk P w K mg base CX0 (k + 1) f fd ps sp := by
  obtain ⟨oc, od, kV, doc, pm, an, cdv, ct, osl, rfl, lk, hcd⟩ := F.ex
  obtain rfl : cdv = cv := hcv
  exact fn_of lk hcd S len fun A outer s H vs Q E hr hsp => by
    obtain ⟨t, ht, hq⟩ := hbody A outer s H vs Q E hr hsp
    exact ⟨t, ht.nox, hq⟩
/-! heaps but for the tables -/
theorem ExtN_tups {H H' : Hp} (e : LamX.ExtN H H') : Tups H H' := fun a xs h => e a _ h (fun ps z => nomatch z)
theorem ExtN_lst {H H' : Hp} (e : LamX.ExtN H H') {a : Addr} {xs : List V} (h : H a = some (.lst xs)) : H' a = some (.lst xs) := e a _ h (fun ps z => nomatch z)
theorem ExtN_pot {p : Addr} {H H' : Hp} (e : LamX.ExtN H H') (h : Pot p H) : Pot p H' := by
  obtain ⟨x, y, h, r⟩ := h
  exact ⟨x, y, ExtN_lst e h, r⟩
theorem ext_of {H H' : Hp} (s : Same H H') : LamX.ExtN H H' := .of s
def KpN (p : Addr) (H H' : Hp) : Prop := ∀ b o, b ≠ p → (∀ ps, o ≠ .tbl ps) → H b = some o → H' b = some o
theorem KpN.of {p : Addr} {H H1 H2 : Hp} (a : Kp p H H1) (b : LamX.ExtN H1 H2) : KpN p H H2 := fun x o n t e => b x o (a x o n e) t
theorem tabs_kp {p : Addr} {T : List (Addr × Str)} {H H' : Hp} (pt : Pot p H) (k : Kp p H H') (t : LamX.Tabs T H) : LamX.Tabs T H' := fun q hq => by
  obtain ⟨ps, h1, h2, h3⟩ := t q hq
  obtain ⟨x, y, hp, _⟩ := pt
  refine ⟨ps, k _ _ (fun z => ?_) h1, h2, fun pos cv hc => ?_⟩
  · rw [z, hp] at h1
    cases h1
  · obtain ⟨c, rfl, hcc⟩ := h3 pos cv hc
    refine ⟨c, rfl, k _ _ (fun z => ?_) hcc⟩
    rw [z, hp] at hcc
    exact nomatch (Option.some.inj hcc)
theorem ext_kl {A : List Addr} {H H' : Hp} (e : LamX.ExtN H H') : KL A H H' := fun b o t _ h => e b o h t
theorem KpN.kp {p : Addr} {H H' : Hp} (k : Kp p H H') : KpN p H H' := fun b o n _ e => k b o n e
theorem KpN.ext {p : Addr} {H H' : Hp} (k : LamX.ExtN H H') : KpN p H H' := fun b o _ t e => k b o e t
theorem KpN.trans {p : Addr} {H H1 H2 : Hp} (a : KpN p H H1) (b : KpN p H1 H2) : KpN p H H2 := fun x o n t e => b x o n t (a x o n t e)
theorem KpN.tups {p : Addr} {H H' : Hp} (po : Pot p H) (k : KpN p H H') : Tups H H' := fun b xs e => k b _ (fun z => by obtain ⟨c, d, h, _⟩ := po; rw [z, h] at e; cases e) (fun _ z => nomatch z) e
theorem KpN.lst {p L : Addr} {H H' : Hp} (k : KpN p H H') (n : L ≠ p) {xs : List V} (h : H L = some (.lst xs)) : H' L = some (.lst xs) := k L _ n (fun _ z => nomatch z) h
theorem KpN.at {p L : Addr} {H H' : Hp} {o : HO} (k : KpN p H H') (h : H L = none) : KpN p H (upd H' L o) := fun b u n t e => by
  rw [upd_ne (ne_of_none e h)]
  exact k b u n t e
theorem kl_kpN {A : List Addr} {p : Addr} {H H' : Hp} (po : Pot p H) (k : KpN p H H') (hp : p ∈ A) : KL A H H' := fun b o t n e => by
  by_cases z : b = p
  · subst z
    obtain ⟨c, d, h, _⟩ := po
    rw [h] at e
    exact absurd (Option.some.inj e).symm (n hp _)
  · exact k b o z t e
theorem tabs_at {T : List (Addr × Str)} {H : Hp} {L : Addr} {o : HO} (t : LamX.Tabs T H) (n : ∀ xs, H L = some (.lst xs) → True) (h : ∃ xs, H L = some (.lst xs)) : LamX.Tabs T (upd H L o) := fun q hq => by
  obtain ⟨xs, hL⟩ := h
  obtain ⟨ps, h1, h2, h3⟩ := t q hq
  refine ⟨ps, ?_, h2, fun pos cv hc => ?_⟩
  · rw [upd_ne (fun z => by rw [z, hL] at h1; cases h1)]
    exact h1
  · obtain ⟨c, rfl, hcc⟩ := h3 pos cv hc
    refine ⟨c, rfl, ?_⟩
    rw [upd_ne (fun z => by rw [z, hL] at hcc; exact nomatch (Option.some.inj hcc))]
    exact hcc
theorem neD {d : PyData} (h : PyData.eqv d d = true) : (!PyData.eqv d d) = false := by rw [h]; rfl
end FY

set_option Elab.async false
set_option linter.all false
set_option maxRecDepth 100000
set_option maxHeartbeats 8000000
namespace FY
open PySem L2 FYR
/-! ## stations made by calls of the class -/
theorem passF {X : Cx} {P : Program} {w : World} : Passes (L2.CX P w) X C8.E0 := fun _ _ _ _ _ _ _ h => by
  obtain ⟨_, _, _, _, _, _, _, _, _, _, _, _, z⟩ := h
  exact z.elim
/-- a class whose __init__ may raise -/
structure MakX (P : Program) (w : World) (K : PySem.W.Frag) (mg : Str → Option Value) (base : Heap) (k : Nat) (x : Str) (C : Addr) (sp : Sp) : Prop where
  ex : ∃ (f : Addr) (fd : FuncData) (ps : List Str), Mk K C f ∧ FnOk P w K mg base (L2.CX P w) k f fd ps sp ∧ mg x = some (.ref C) ∧ Binds K fd ps []
structure MakXK (P : Program) (w : World) (K : PySem.W.Frag) (mg : Str → Option Value) (base : Heap) (k : Nat) (x : Str) (C : Addr) (sp : Sp) (ks : List Str) (is : List Nat) : Prop where
  ex : ∃ (f : Addr) (fd : FuncData) (ps : List Str) (g : List Value → List Value → List Value), Mk K C f ∧ FnOk P w K mg base (L2.CX P w) k f fd ps sp ∧ mg x = some (.ref C) ∧ KBn K fd ps 1 ks g (fun vs zs => pick is (vs ++ (zs ++ [])))
section
variable {X : Cx} {k j : Nat} {C : Addr} {x : Str} {sp : Sp} {p pos : Pos} {e : Expr} {es : List Expr} {t tk : L2.TA} {E : XK} {ks : List Str} {is : List Nat} {kws : List Keyword}
theorem pe_mkX (c : MakX X.prog X.w X.K X.mg X.base k x C sp) (hr : Room j X.A) (hk : k + 1 ≤ j) (hg : Gl X x) (hx : Passes (L2.CX X.prog X.w) X E) (ha : PA X (e :: es) t)
    (hdb : (x == ("__debug__" : Str)) = false := by decide) (he : starEach (e :: es) X.env = (false, eval e X.env) :: starEach es X.env := by rfl) (hpl : (backTo pos (starEach es X.env)).any (·.1) = false := by rfl) :
    PE X (.Call (.Name x p) (e :: es) [] pos) (tMake C sp [] E t) := by
  obtain ⟨f, fd, ps, M, F, hm, b⟩ := c.ex
  exact pe_make M F (hr.mono hk) hg hm b .nil hx ha hdb he hpl
theorem pe_mkXK (c : MakXK X.prog X.w X.K X.mg X.base k x C sp ks is) (hr : Room j X.A) (hk : k + 1 ≤ j) (hg : Gl X x) (hx : Passes (L2.CX X.prog X.w) X E) (hkw : PK X kws tk)
    (hall : (backToKw pos (keywordEach kws X.env)).all (·.1.isSome) = true := by rfl) (hks : (backToKw pos (keywordEach kws X.env)).filterMap (·.1) = ks := by rfl) (hdb : (x == ("__debug__" : Str)) = false := by decide)
    (hpl : ((backTo pos (starEach [] X.env)).any (·.1) || (backToKw pos (keywordEach kws X.env)).any (·.1.isNone)) = false := by rfl) :
    PE X (.Call (.Name x p) [] kws pos) (tMakeK C 0 ks.length sp (fun vs zs => pick is (vs ++ (zs ++ []))) E tNil tk) := by
  obtain ⟨f, fd, ps, g, M, F, hm, b⟩ := c.ex
  exact pe_makeK0 M F (hr.mono hk) hg hm b hx hkw hall hks hdb hpl
end
theorem ivE.on {CE : Addr} {E : XK} {H G : Hp} {v : V} (h : ivE CE E H v) (s : Same H G) : ivE CE E G v := fun H' d k e => h H' d (s.trans' k) e
theorem isE.on {CE : Addr} {E : XK} {H G : Hp} {v : V} (h : isE CE E H v) (s : Same H G) : isE CE E G v := fun H' d k e => h H' d (s.trans' k) e
theorem stCase.on {CI CO CS : Addr} {d1 d2 d3 : PyData} {v1 v2 : V} {E : XK} {H G : Hp} {g1 g2 : Stn → Prop} (h : stCase CI CO CS d1 d2 d3 v1 v2 E H g1) (s : Same H G) (m : ∀ t, g1 t → g2 t) : stCase CI CO CS d1 d2 d3 v1 v2 E G g2 := by
  rcases h with ⟨a, e⟩ | ⟨a, b, e⟩ | ⟨a, b, c, e⟩ | ⟨i, o, a, b, c, d, f, k, x, y, z, z2, e⟩ | ⟨t, a, b, c, d, f, g⟩
  · exact .inl ⟨a, e.on s⟩
  · exact .inr (.inl ⟨a, b, e.on s⟩)
  · exact .inr (.inr (.inl ⟨a, b, c, e.on s⟩))
  · exact .inr (.inr (.inr (.inl ⟨i, o, a, b, c, d, f, k, x, y, z, z2, e.on s⟩)))
  · exact .inr (.inr (.inr (.inr ⟨t, a, b, c, d, f, m t g⟩)))
/-- what a call of the class asks -/
theorem mk_q {C CI CO CS p : Addr} {H : Hp} {v1 v2 v3 : V} {d1 d2 d3 : PyData} {E : XK} {Q : VK} (h1 : Tv p H v1 d1) (h2 : Tv p H v2 d2) (h3 : Tv p H v3 d3) (sh : ∀ e ∈ elsO d3, shStn e ∧ lenO e)
    (cs : stCase CI CO CS d1 d2 d3 v1 v2 E H fun t => ∀ H' a, H a = none → Same H H' → StnA C H' (.ref a) t → Q (.ref a) H') (x dx : Addr) (hx : H x = none) (hdx : H dx = none) (hn : dx ≠ x) :
    spStInitX C CI CO CS [.ref x, v1, v2, v3] (upd (upd H dx (.own x)) x (.ins C dx [])) (fun v H2 => v = .non ∧ Q (.ref x) H2) E := by
  have s1 : Same H (upd (upd H dx (.own x)) x (.ins C dx [])) := fun b o e => by
    rw [upd_ne (ne_of_none e hx), upd_ne (ne_of_none e hdx)]
    exact e
  refine ⟨p, x, dx, v1, v2, v3, d1, d2, d3, rfl, upd_same, h1.same s1, h2.same s1, h3.same s1, sh, cs.on s1 fun t g H' k st => ⟨rfl, g H' x hx (fun b o e => k b o (ne_of_none e hx) (s1 _ _ e)) st⟩⟩
def spMade (C : Addr) : Sp := fun vs H Q _ => ∃ (p : Addr) (v : V) (t : Stn) (d3 : PyData), vs = [v] ∧ Tv p H v (.tuple [.int (t.ins : Nat), .int (t.outs : Nat), d3]) ∧ t.ok ∧ isSeqD d3 = true ∧ Paired SgD (elsO d3) t.stgs ∧ ∀ H' a, Same H H' → StnA C H' (.ref a) t → Q (.ref a) H'
theorem sgD_to (S : Sg) : SgD (toD S) S := ⟨_, rfl, rfl, rfl⟩
theorem sgD_tos : ∀ ss : List Sg, Paired SgD (ss.map toD) ss
  | [] => .nil
  | s :: r => .cons (sgD_to s) (sgD_tos r)
theorem sgd_sh {ss : List Sg} {ins outs many : Nat} (ok : ∀ s ∈ ss, s.ok ins outs many) : ∀ {ds : List PyData}, Paired SgD ds ss → ∀ e ∈ ds, shStn e ∧ lenO e := fun {ds} pr e he => by
  obtain ⟨k, hk⟩ := List.getElem?_of_mem he
  obtain ⟨S, hS, b, rfl, sb, eb⟩ := paired_get pr hk
  obtain ⟨o1, o2, o3⟩ := ok S (List.mem_of_getElem? hS)
  refine ⟨⟨rdKnS _, fun r hr => ?_⟩, lenO2 (show 0 ≤ 1000 by decide) ?_⟩
  · rw [eb] at hr
    obtain ⟨x, hx, rfl⟩ := List.mem_map.mp hr
    exact sh_rw (o3 x hx)
  · rw [eb, List.length_map, o2]
    cases S.reads <;> decide
section
variable {P : Program} {w : World} {K : PySem.W.Frag} {mg : Str → Option Value} {base : Heap} {aS a1 a2 aL aT : Addr} {f : Addr} {fd : FuncData} {C CI CO CS CD CY : Addr} {mc : Value}
abbrev s_law_made : Stmt := top 37
abbrev N_law_made : List Str := ["_law_model_here"]
theorem sc_law_made : FnScope N_law_made ["_law_model_here"] (defScope s_law_made) := ⟨rfl, rfl, rfl, by decide +kernel, rfl, by decide +kernel, by decide +kernel⟩
theorem ok_law_made (F : Fun K "_law_made" "_law_made" s_law_made f fd) (T : Txt K mg aS a1 a2) (mkx : MakX P w K mg base 6 "Station" C (spStInitX C CI CO CS)) : FnOk P w K mg base CX0 8 f fd ["_law_model_here"] (spMade C) := by
  refine F.ok sc_law_made (fun vs H Q E h => ?_) (fun cdv A outer s H vs Q E hr h => ?_)
  · obtain ⟨p, v, t, d3, rfl, _⟩ := h
    rfl
  obtain ⟨p, v, t, d3, rfl, tv, tok, sq, pr, q⟩ := h
  refine ⟨_, (pss_one (ps_ret (pe_mkX mkx hr (by decide) rfl passF (pa_cons (pe_ix (kIxT K rfl) (pv 0) pe_int (fun _ _ => rfl)) (pa_cons (pe_ix (kIxT K rfl) (pv 0) pe_int (fun _ _ => rfl)) (pa_cons (pe_ix (kIxT K rfl) (pv 0) pe_int (fun _ _ => rfl)) pa_nil)))))), ?_⟩
  obtain ⟨a, xs, rfl, na, ha, hs⟩ := tv_tup tv
  obtain ⟨x, y, z, rfl, h1, h2, h3⟩ := tvs_three hs
  cases h1
  cases h2
  refine ⟨_, rfl, _, _, _, _, rfl, rfl, SqT.of ha, atI_nat (j := 0) rfl, _, rfl, _, _, _, _, rfl, rfl, SqT.of ha, atI_nat (j := 1) rfl, _, rfl, _, _, _, _, rfl, rfl, SqT.of ha, atI_nat (j := 2) rfl, fun b db hb hdb hn => ?_⟩
  exact mk_q (.int _) (.int _) h3 (sgd_sh tok.sg pr) (.inr (.inr (.inr (.inr ⟨t, tok, rfl, rfl, sq, pr, fun H' c _ s st => q H' c s st⟩)))) b db hb hdb hn
end
end FY


set_option Elab.async false
set_option linter.all false
set_option maxRecDepth 100000
set_option maxHeartbeats 2000000
namespace FY
open PySem L2 FYR
/-! ## stations that are unlike (plain) -/
/-- data of texts, numbers, lists and tuples alone -/
inductive Pl : PyData → Prop
  | int (i : Int) : Pl (.int i)
  | str (s : Str) : Pl (.str s)
  | lst {ds : List PyData} : (∀ d ∈ ds, Pl d) → Pl (.list ds)
  | tup {ds : List PyData} : (∀ d ∈ ds, Pl d) → Pl (.tuple ds)
mutual
theorem eqv_pl : ∀ (a b : PyData), Pl a → Pl b → PyData.eqv a b = true → a = b
  | .int i, .int j, _, _, h => by rw [show i = j from beq_iff_eq.mp (by simpa [PyData.eqv] using h)]
  | .str x, .str y, _, _, h => by rw [show x = y from beq_iff_eq.mp (by simpa [PyData.eqv] using h)]
  | .list xs, .list ys, ha, hb, h => by
    cases ha with
    | lst ha =>
      cases hb with
      | lst hb => rw [eqvAll_pl xs ys ha hb (by simpa [PyData.eqv] using h)]
  | .tuple xs, .tuple ys, ha, hb, h => by
    cases ha with
    | tup ha =>
      cases hb with
      | tup hb => rw [eqvAll_pl xs ys ha hb (by simpa [PyData.eqv] using h)]
  | .int _, .str _, _, _, h => by simp [PyData.eqv] at h
  | .int _, .list _, _, _, h => by simp [PyData.eqv] at h
  | .int _, .tuple _, _, _, h => by simp [PyData.eqv] at h
  | .str _, .int _, _, _, h => by simp [PyData.eqv] at h
  | .str _, .list _, _, _, h => by simp [PyData.eqv] at h
  | .str _, .tuple _, _, _, h => by simp [PyData.eqv] at h
  | .list _, .int _, _, _, h => by simp [PyData.eqv] at h
  | .list _, .str _, _, _, h => by simp [PyData.eqv] at h
  | .list _, .tuple _, _, _, h => by simp [PyData.eqv] at h
  | .tuple _, .int _, _, _, h => by simp [PyData.eqv] at h
  | .tuple _, .str _, _, _, h => by simp [PyData.eqv] at h
  | .tuple _, .list _, _, _, h => by simp [PyData.eqv] at h
  | .none, _, ha, _, _ => nomatch ha
  | .bool _, _, ha, _, _ => nomatch ha
  | .dict _, _, ha, _, _ => nomatch ha
  | _, .none, _, hb, _ => nomatch hb
  | _, .bool _, _, hb, _ => nomatch hb
  | _, .dict _, _, hb, _ => nomatch hb
theorem eqvAll_pl : ∀ (xs ys : List PyData), (∀ d ∈ xs, Pl d) → (∀ d ∈ ys, Pl d) → PyData.eqvAll xs ys = true → xs = ys
  | [], [], _, _, _ => rfl
  | x :: xs, y :: ys, hx, hy, h => by
    simp only [PyData.eqvAll, Bool.and_eq_true] at h
    rw [eqv_pl x y (hx x (List.mem_cons_self ..)) (hy y (List.mem_cons_self ..)) h.1, eqvAll_pl xs ys (fun d m => hx d (List.mem_cons_of_mem _ m)) (fun d m => hy d (List.mem_cons_of_mem _ m)) h.2]
  | [], _ :: _, _, _, h => by simp [PyData.eqvAll] at h
  | _ :: _, [], _, _, h => by simp [PyData.eqvAll] at h
end
theorem pl_mem {ds : List PyData} (h : ∀ d ∈ ds, Pl d) : ∀ d ∈ ds, Pl d := h
theorem pl_cons {d : PyData} {ds : List PyData} (h : Pl d) (t : ∀ x ∈ ds, Pl x) : ∀ x ∈ d :: ds, Pl x := fun x hx => by
  rcases List.mem_cons.mp hx with rfl | hx
  · exact h
  · exact t x hx
theorem pl_nil : ∀ x ∈ ([] : List PyData), Pl x := fun x h => nomatch h
theorem pl_map {α : Type} {f : α → PyData} (h : ∀ x, Pl (f x)) (xs : List α) : ∀ d ∈ xs.map f, Pl d := fun d hd => by
  obtain ⟨x, _, rfl⟩ := List.mem_map.mp hd
  exact h x
theorem pl_rw (r : Rw) : Pl (rwD r) := .tup (pl_cons (.tup (pl_map (fun b => .str _) _)) (pl_cons (.int _) (pl_cons (.int _) pl_nil)))
theorem pl_sg (s : Sg) : Pl (sgD s) := .tup (pl_cons (.str _) (pl_cons (.tup (pl_map pl_rw _)) pl_nil))
theorem map_inj {α β : Type} {f : α → β} (h : ∀ x y, f x = f y → x = y) : ∀ {xs ys : List α}, xs.map f = ys.map f → xs = ys
  | [], [], _ => rfl
  | x :: xs, y :: ys, e => by
    rw [List.map_cons, List.map_cons] at e
    rw [h x y (List.cons.inj e).1, map_inj h (List.cons.inj e).2]
  | [], _ :: _, e => nomatch e
  | _ :: _, [], e => nomatch e
theorem rwD_inj : ∀ r r' : Rw, rwD r = rwD r' → r = r' := fun ⟨g, a, b⟩ ⟨g', a', b'⟩ e => by
  unfold rwD at e
  have e := PyData.tuple.inj e
  have e1 := PyData.tuple.inj (List.cons.inj e).1
  have e2 := PyData.int.inj (List.cons.inj (List.cons.inj e).2).1
  have e3 := PyData.int.inj (List.cons.inj (List.cons.inj (List.cons.inj e).2).2).1
  have eg : g = g' := map_inj (f := fun b => PyData.str (tx b)) (fun x y h => tx_inj (PyData.str.inj h)) e1
  have ea : a = a' := by
    have e2 : (a : Int) = (a' : Int) := e2
    omega
  have eb : b = b' := by
    have e3 : (b : Int) = (b' : Int) := e3
    omega
  rw [eg, ea, eb]
theorem rdS_inj : ∀ a b : Rd, a.s = b.s → a = b := fun a b => by cases a <;> cases b <;> first | (intro _; rfl) | (intro h; exact absurd h (by decide +kernel))
theorem sgD_inj : ∀ s s' : Sg, sgD s = sgD s' → s = s' := fun ⟨a, r⟩ ⟨a', r'⟩ e => by
  unfold sgD at e
  have e := PyData.tuple.inj e
  have e1 := PyData.str.inj (List.cons.inj e).1
  have e2 := PyData.tuple.inj (List.cons.inj (List.cons.inj e).2).1
  have e3 : a = a' := rdS_inj a a' e1
  have e4 : r = r' := map_inj rwD_inj e2
  rw [e3, e4]
theorem stnE_ne {t t' : Stn} (h : t ≠ t') : stnE t t' = false := by
  cases e : stnE t t' with
  | false => rfl
  | true =>
    unfold stnE at e
    simp only [Bool.and_eq_true, decide_eq_true_eq] at e
    obtain ⟨⟨e1, e2⟩, e3⟩ := e
    have e4 := eqv_pl _ _ (.tup (pl_map pl_sg _)) (.tup (pl_map pl_sg _)) e3
    have e5 := map_inj sgD_inj (PyData.tuple.inj e4)
    refine absurd ?_ h
    obtain ⟨a, b, c⟩ := t
    obtain ⟨a', b', c'⟩ := t'
    simp only at e1 e2 e5
    rw [e1, e2, e5]
theorem stnE_refl {t : Stn} (h : t.ok) : stnE t t = true := by
  unfold stnE
  rw [eqv_dec (sgs_nice h).lay, decide_eq_true rfl, decide_eq_true rfl]
  rfl
/-- a list with one place told otherwise -/
theorem set_cut {α : Type} {x : α} : ∀ {l : List α} {i : Nat}, i < l.length → l.take i ++ [x] ++ l.drop (i + 1) = l.set i x
  | [], i, h => absurd h (Nat.not_lt_zero _)
  | a :: l, 0, _ => by simp
  | a :: l, i + 1, h => by
    have := set_cut (x := x) (l := l) (i := i) (by simpa using h)
    simp only [List.take_succ_cons, List.drop_succ_cons, List.set_cons_succ, List.cons_append]
    rw [← this]
def Stn.put (t : Stn) (i : Nat) (S : Sg) : Stn := ⟨t.ins, t.outs, t.stgs.set i S⟩
def Sg.put (S : Sg) (i : Nat) (r : Rw) : Sg := ⟨S.reads, S.rows.set i r⟩
theorem Stn.put_ok {t : Stn} {i : Nat} {S : Sg} (h : t.ok) (hS : S.ok t.ins t.outs t.stgs.length) : (t.put i S).ok := by
  refine ⟨h.i1, h.i2, h.o1, h.o2, ?_, ?_, fun s hs => ?_⟩
  · show 1 ≤ (t.stgs.set i S).length
    rw [List.length_set]; exact h.m1
  · show (t.stgs.set i S).length ≤ 4
    rw [List.length_set]; exact h.m2
  · show s.ok t.ins t.outs (t.stgs.set i S).length
    rw [List.length_set]
    rcases List.mem_or_eq_of_mem_set hs with hs | rfl
    · exact h.sg s hs
    · exact hS
theorem Stn.put_ne {t : Stn} {i : Nat} {S S' : Sg} (h : t.stgs[i]? = some S) (n : S' ≠ S) : t.put i S' ≠ t := fun e => by
  have e2 : (t.put i S').stgs[i]? = t.stgs[i]? := by rw [e]
  have il := (List.getElem?_eq_some_iff.mp h).1
  rw [h, show (t.put i S').stgs = t.stgs.set i S' from rfl, List.getElem?_set_self il] at e2
  exact n (Option.some.inj e2)
theorem Sg.put_ok {S : Sg} {i : Nat} {r : Rw} {ins outs many : Nat} (h : S.ok ins outs many) (hr : r.ok outs many) : (S.put i r).ok ins outs many := by
  obtain ⟨h1, h2, h3⟩ := h
  refine ⟨h1, ?_, fun x hx => ?_⟩
  · show (S.rows.set i r).length = _
    rw [List.length_set]; exact h2
  · rcases List.mem_or_eq_of_mem_set (show x ∈ S.rows.set i r from hx) with hx | rfl
    · exact h3 x hx
    · exact hr
theorem Sg.put_ne {S : Sg} {i : Nat} {r r' : Rw} (h : S.rows[i]? = some r) (n : r' ≠ r) : S.put i r' ≠ S := fun e => by
  have e2 : (S.put i r').rows[i]? = S.rows[i]? := by rw [e]
  have il := (List.getElem?_eq_some_iff.mp h).1
  rw [h, show (S.put i r').rows = S.rows.set i r' from rfl, List.getElem?_set_self il] at e2
  exact n (Option.some.inj e2)
def turnT (b : List Bool) : List Bool := if b = [false] then [] else [false]
theorem turnT_ne (b : List Bool) : turnT b ≠ b := by
  unfold turnT
  by_cases h : b = [false]
  · rw [if_pos h, h]; decide
  · rw [if_neg h]; exact fun e => h e.symm
theorem turnT_len (b : List Bool) : (turnT b).length ≤ 2 := by
  unfold turnT
  by_cases h : b = [false]
  · rw [if_pos h]; decide
  · rw [if_neg h]; decide
/-- other rows -/
def Rw.late (r : Rw) : Rw := ⟨r.gives, r.goal, 1 + r.ticks % 9⟩
def Rw.turn (r : Rw) : Rw := ⟨r.gives.map turnT, r.goal, r.ticks⟩
def Rw.next (r : Rw) (n : Nat) : Rw := ⟨r.gives, (r.goal + 1) % n, r.ticks⟩
theorem Rw.late_ok {r : Rw} {outs many : Nat} (h : r.ok outs many) : r.late.ok outs many := ⟨h.1, h.2.1, h.2.2.1, by show 1 ≤ 1 + r.ticks % 9; omega, by show 1 + r.ticks % 9 ≤ 9; omega⟩
theorem Rw.late_ne {r : Rw} {outs many : Nat} (h : r.ok outs many) : r.late ≠ r := fun e => by
  have e2 : 1 + r.ticks % 9 = r.ticks := congrArg Rw.ticks e
  obtain ⟨_, _, _, h4, h5⟩ := h
  omega
theorem Rw.turn_ok {r : Rw} {outs many : Nat} (h : r.ok outs many) : r.turn.ok outs many := ⟨by show (r.gives.map turnT).length = outs; rw [List.length_map]; exact h.1, fun g hg => by
  obtain ⟨b, _, rfl⟩ := List.mem_map.mp hg
  exact turnT_len b, h.2.2.1, h.2.2.2.1, h.2.2.2.2⟩
theorem Rw.turn_ne {r : Rw} {outs many : Nat} (h : r.ok outs many) (o1 : 1 ≤ outs) : r.turn ≠ r := fun e => by
  have e2 : r.gives.map turnT = r.gives := congrArg Rw.gives e
  have l := h.1
  match hg : r.gives, l with
  | [], l => rw [hg] at *; simp at l; omega
  | b :: bs, _ =>
    rw [hg, List.map_cons] at e2
    exact turnT_ne b (List.cons.inj e2).1
theorem Rw.next_ok {r : Rw} {outs many : Nat} (h : r.ok outs many) : (r.next many).ok outs many := ⟨h.1, h.2.1, Nat.mod_lt _ (Nat.lt_of_le_of_lt (Nat.zero_le _) h.2.2.1), h.2.2.2.1, h.2.2.2.2⟩
theorem Rw.next_ne {r : Rw} {outs many : Nat} (h : r.ok outs many) (m1 : 1 < many) : r.next many ≠ r := fun e => by
  have e2 : (r.goal + 1) % many = r.goal := congrArg Rw.goal e
  have h3 := h.2.2.1
  by_cases z : r.goal + 1 < many
  · rw [Nat.mod_eq_of_lt z] at e2; omega
  · have : r.goal + 1 = many := by omega
    rw [this, Nat.mod_self] at e2
    omega
theorem Rw.ok_up {r : Rw} {outs m n : Nat} (h : r.ok outs m) (l : m ≤ n) : r.ok outs n := ⟨h.1, h.2.1, Nat.lt_of_lt_of_le h.2.2.1 l, h.2.2.2⟩
theorem Sg.ok_up {S : Sg} {ins outs m n : Nat} (h : S.ok ins outs m) (l : m ≤ n) : S.ok ins outs n := ⟨h.1, h.2.1, fun r hr => Rw.ok_up (h.2.2 r hr) l⟩
/-- the other number of in-lines -/
def Stn.flip (t : Stn) : Stn := ⟨3 - t.ins, t.outs, t.stgs⟩
theorem Stn.flip_ok {t : Stn} (h : t.ok) (a : ∀ s ∈ t.stgs, s.reads = .one) : t.flip.ok := ⟨by show 1 ≤ 3 - t.ins; have := h.i2; omega, by show 3 - t.ins ≤ 2; have := h.i1; omega, h.o1, h.o2, h.m1, h.m2, fun s hs => ⟨.inl (a s hs), (h.sg s hs).2⟩⟩
theorem Stn.flip_ne {t : Stn} : t.flip ≠ t := fun e => by
  have e2 : 3 - t.ins = t.ins := congrArg Stn.ins e
  omega
instance : DecidableEq Rd := fun a b => by cases a <;> cases b <;> first | exact isTrue rfl | exact isFalse (by intro h; cases h)
/-- one standing reads the other line -/
def Sg.swap (S : Sg) : Sg := ⟨if S.reads = .one then .two else .one, S.rows⟩
theorem Sg.swap_ok {S : Sg} {outs many : Nat} (h : S.ok 2 outs many) (n : S.reads ≠ .both) : S.swap.ok 2 outs many := by
  refine ⟨.inr rfl, ?_, h.2.2⟩
  show S.rows.length = (if S.reads = .one then Rd.two else Rd.one).many
  rw [h.2.1]
  cases e : S.reads with
  | one => rfl
  | two => rfl
  | both => exact absurd e n
theorem Sg.swap_ne {S : Sg} (n : S.reads ≠ .both) : S.swap ≠ S := fun e => by
  have e2 : (if S.reads = .one then Rd.two else Rd.one) = S.reads := congrArg Sg.reads e
  cases h : S.reads with
  | one => rw [h] at e2; cases e2
  | two => rw [h] at e2; cases e2
  | both => exact n h
/-- one standing more -/
def Stn.more (t : Stn) : Stn := ⟨t.ins, t.outs, t.stgs ++ t.stgs.take 1⟩
theorem Stn.more_ok {t : Stn} (h : t.ok) (l : t.stgs.length < 4) : t.more.ok := by
  have e : (t.stgs ++ t.stgs.take 1).length = t.stgs.length + 1 := by
    rw [List.length_append, List.length_take]
    have := h.m1
    omega
  refine ⟨h.i1, h.i2, h.o1, h.o2, ?_, ?_, fun s hs => ?_⟩
  · show 1 ≤ (t.stgs ++ t.stgs.take 1).length
    omega
  · show (t.stgs ++ t.stgs.take 1).length ≤ 4
    omega
  · show s.ok t.ins t.outs (t.stgs ++ t.stgs.take 1).length
    have hs : s ∈ t.stgs := (List.mem_append.mp hs).elim id fun m => List.mem_of_mem_take m
    exact Sg.ok_up (h.sg s hs) (by omega)
theorem Stn.more_ne {t : Stn} (h : t.ok) : t.more ≠ t := fun e => by
  have e2 : (t.stgs ++ t.stgs.take 1).length = t.stgs.length := congrArg (fun z => z.stgs.length) e
  rw [List.length_append, List.length_take] at e2
  have := h.m1
  omega
end FY

set_option Elab.async false
set_option linter.all false
set_option maxRecDepth 100000
set_option maxHeartbeats 8000000
namespace FY
open PySem L2 FYR
/-! ## a model that is unlike in one row -/
def spUnlike : Sp := fun vs H Q _ => ∃ (p : Addr) (v : V) (t : Stn), vs = [.ref p, v] ∧ Pot p H ∧ Tv p H v (stD t) ∧ t.ok ∧ ∀ (v' : V) (t' : Stn) (H' : Hp), Tv p H' v' (stD t') → t'.ok → t' ≠ t → Kp p H H' → Pot p H' → Q v' H'
theorem TvAll.kpp {p : Addr} {H H' : Hp} (k : Kp p H H') {ds : List PyData} {vs : List V} (h : TvAll p H vs ds) : TvAll p H' vs ds := TvAll.kp k ds h
/-- told rows, one of them otherwise -/
theorem tv_set {p : Addr} {H : Hp} {α : Type} {f : α → PyData} {ws : List V} {rs : List α} {x : V} {r : α} {i : Nat} (h : TvAll p H ws (rs.map f)) (hx : Tv p H x (f r)) (il : i < rs.length) : TvAll p H (cutV ws none (some (i : Nat)) ++ [x] ++ cutV ws (some ((i + 1 : Nat) : Int)) none) ((rs.set i r).map f) := by
  rw [cut_tn, cut_dn, List.map_set, ← set_cut (by rw [List.length_map]; exact il)]
  exact ((h.take i).app (.cons hx .nil)).app (h.drop (i + 1))
/-- xs[:i] + [x] + xs[i + 1:] -/
theorem splice_q {K : PySem.W.Frag} {σ : L2.St} {H : Hp} {Q : VK} {a b i : Nat} {tx : TE} {A : Addr} {xs : List V} (ha : σ[a]? = some (some (.ref A))) (hb : σ[b]? = some (some (.int (i : Nat)))) (hA : H A = some (.lst xs)) (hl : xs.length ≤ 1000)
    (h : ∀ H1, Same H H1 → ∀ Q1 : VK, (∀ x H2, Same H1 H2 → (∀ H' X, Same H2 H' → H2 X = none → H' X = some (.lst (cutV xs none (some (i : Nat)) ++ [x] ++ cutV xs (some ((i + 1 : Nat) : Int)) none)) → Q (.ref X) H') → Q1 x H2) → tx σ H1 Q1) :
    tOp rCat (tOp rCat (tSl (rSlL K) (tVar a) tNoPart (tPart (tVar b))) (tLst (tCons tx tNil))) (tSl (rSlL K) (tVar a) (tPart (tOp (rI0 fun i j => V.int (i + j)) (tVar b) (tC (V.int 1)))) tNoPart) σ H Q := by
  refine ⟨_, ha, _, hb, _, rfl, A, xs, rfl, SqL.of hA, fun X1 hX1 => ?_⟩
  have n1 := same_new hX1 (.lst (cutV xs none (some (i : Nat))))
  refine h _ n1 _ fun x H2 s2 q => ?_
  refine ⟨sz rfl, fun X3 hX3 => ?_⟩
  have n3 := same_new hX3 (.lst [x])
  refine ⟨X1, X3, cutV xs none (some (i : Nat)), [x], rfl, rfl, n3 _ _ (s2 _ _ upd_same), upd_same, by rw [cut_tn, List.length_take]; exact Nat.le_trans (show _ ≤ 2000 by simp only [List.length_singleton]; omega) (by decide), fun X4 hX4 => ?_⟩
  have n4 := same_new hX4 (.lst (cutV xs none (some (i : Nat)) ++ [x]))
  refine ⟨_, ha, _, hb, _, _, rfl, rfl, _, rfl, A, xs, rfl, SqL.of (n4 _ _ (n3 _ _ (s2 _ _ (n1 _ _ hA)))), fun X5 hX5 => ?_⟩
  have n5 := same_new hX5 (.lst (cutV xs (some ((i + 1 : Nat) : Int)) none))
  refine ⟨X4, X5, cutV xs none (some (i : Nat)) ++ [x], cutV xs (some ((i + 1 : Nat) : Int)) none, rfl, rfl, n5 _ _ upd_same, upd_same, by rw [cut_tn, cut_dn, List.length_append, List.length_take, List.length_drop]; exact Nat.le_trans (show _ ≤ 3000 by simp only [List.length_singleton]; omega) (by decide), fun X6 hX6 => ?_⟩
  have n6 := same_new hX6 (.lst (cutV xs none (some (i : Nat)) ++ [x] ++ cutV xs (some ((i + 1 : Nat) : Int)) none))
  exact q _ X6 (((n3.trans' n4).trans' n5).trans' n6) (none_ofS ((n3.trans' n4).trans' n5) hX6) upd_same
section
variable {P : Program} {w : World} {K : PySem.W.Frag} {mg : Str → Option Value} {base : Heap} {aS a1 a2 aL aT : Addr} {f : Addr} {fd : FuncData} {C CD CY : Addr} {mc : Value}
abbrev s_law_unlike : Stmt := top 40
abbrev N_law_unlike : List Str := ["_law_pot_here", "_law_model_here", "_law_near", "_law_far", "_law_found", "_law_at", "_law_told", "_law_rows", "_law_spot", "_law_gives", "_law_goal", "_law_lasts", "_law_turned", "_law_fresh", "_law_text_here"]
theorem sc_law_unlike : FnScope N_law_unlike ["_law_pot_here", "_law_model_here"] (defScope s_law_unlike) := ⟨rfl, rfl, rfl, by decide +kernel, rfl, by decide +kernel, by decide +kernel⟩
theorem ok_law_unlike (F : Fun K "_law_unlike" "_law_unlike" s_law_unlike f fd) (T : Txt K mg aS a1 a2) (c__law_draw : C8.Cal P w K mg base 1 "_law_draw" spDraw []) (c__law_pick : C8.Cal P w K mg base 2 "_law_pick" spPick []) : FnOk P w K mg base CX0 3 f fd ["_law_pot_here", "_law_model_here"] spUnlike := by
  refine F.ok sc_law_unlike (fun vs H Q E h => ?_) (fun cdv A outer s H vs Q E hr h => ?_)
  · obtain ⟨p, v, t, rfl, _⟩ := h
    rfl
  obtain ⟨p, v, t, rfl, p0, tv0, tok, q⟩ := h
  refine ⟨_, (pss_cons (ps_asg (pv 1) (kTupG (n := 3) K rfl rfl (pgs_cons (pg_name (i := 2) sc_law_unlike.nd rfl (Or.inl rfl)) (pgs_cons (pg_name (i := 3) sc_law_unlike.nd rfl (Or.inl rfl)) (pgs_cons (pg_name (i := 4) sc_law_unlike.nd rfl (Or.inl rfl)) pgs_nil)))))
        (pss_cons (ps_set (i := 5) sc_law_unlike.nd rfl (Or.inl rfl) (C8.pe_c c__law_draw hr (by decide) rfl (pa_cons (pv 0) (pa_cons (pe_callB (kLen K rfl) rfl T.b_len bt_len (pa_cons (pv 4) pa_nil)) pa_nil))))
        (pss_cons (ps_asg (pe_ix (kIxL K rfl) (pv 4) (pv 5) (fun _ _ => rfl)) (kTupG (n := 2) K rfl rfl (pgs_cons (pg_name (i := 6) sc_law_unlike.nd rfl (Or.inl rfl)) (pgs_cons (pg_name (i := 7) sc_law_unlike.nd rfl (Or.inl rfl)) pgs_nil))))
        (pss_cons (ps_set (i := 8) sc_law_unlike.nd rfl (Or.inl rfl) (C8.pe_c c__law_draw hr (by decide) rfl (pa_cons (pv 0) (pa_cons (pe_callB (kLen K rfl) rfl T.b_len bt_len (pa_cons (pv 7) pa_nil)) pa_nil))))
        (pss_cons (ps_asg (pe_ix (kIxL K rfl) (pv 7) (pv 8) (fun _ _ => rfl)) (kTupG (n := 3) K rfl rfl (pgs_cons (pg_name (i := 9) sc_law_unlike.nd rfl (Or.inl rfl)) (pgs_cons (pg_name (i := 10) sc_law_unlike.nd rfl (Or.inl rfl)) (pgs_cons (pg_name (i := 11) sc_law_unlike.nd rfl (Or.inl rfl)) pgs_nil)))))
        (pss_cons (ps_set (i := 12) sc_law_unlike.nd rfl (Or.inl rfl) (pe_callTy (kTupOf K rfl) rfl T.b_tuple bt_tuple (pa_cons (pe_lc (own := [("_law_text_here", 14)]) rfl sc_law_unlike.nd (kTup K rfl (pv 9)) (blkOk_by (N := N_law_unlike) (sc := defScope s_law_unlike) (by decide +kernel)) (fun _ _ _ _ _ => (pg_name (i := 14) sc_law_unlike.nd rfl (Or.inl rfl))) (fun _ _ _ _ _ => pts_nil) (fun _ _ _ _ _ => (pe_ifExp (pt_cmpR op_ne (pv 14) pe_str (nomark _)) pe_str pe_str))) pa_nil)))
        (pss_cons (ps_set (i := 13) sc_law_unlike.nd rfl (Or.inl rfl) (C8.pe_c c__law_pick hr (by decide) rfl (pa_cons (pv 0) (pa_cons (pe_lst (pa_cons (pe_tup (pa_cons (pv 9) (pa_cons (pv 10) (pa_cons (pe_op op_add pe_int (pe_op op_mod (pe_callTy call_int1 rfl T.b_int bt_int (pa_cons (pv 11) pa_nil)) pe_int)) pa_nil)))) (pa_cons (pe_tup (pa_cons (pv 12) (pa_cons (pv 10) (pa_cons (pv 11) pa_nil)))) pa_nil))) pa_nil))))
        (pss_one (ps_ret (pe_tup (pa_cons (pv 2) (pa_cons (pv 3) (pa_cons (pe_op op_cat (pe_op op_cat (pe_slice (kSlL K rfl) (pv 4) po_none (po_some (pv 5))) (pe_lst (pa_cons (pe_tup (pa_cons (pv 6) (pa_cons (pe_op op_cat (pe_op op_cat (pe_slice (kSlL K rfl) (pv 7) po_none (po_some (pv 8))) (pe_lst (pa_cons (pv 13) pa_nil))) (pe_slice (kSlL K rfl) (pv 7) (po_some (pe_op op_add (pv 8) pe_int)) po_none)) pa_nil))) pa_nil))) (pe_slice (kSlL K rfl) (pv 4) (po_some (pe_op op_add (pv 5) pe_int)) po_none)) pa_nil))))))))))))), ?_⟩
  obtain ⟨a, F0, us, rfl, na, ha, nF, hF, hus⟩ := st_tv tv0
  have lus := hus.len
  rw [List.length_map] at lus
  have m1 := tok.m1
  have m4 := tok.m2
  refine seq_split (fun τ G => τ = [some (.ref p), some (.ref a), some (.int (t.ins : Nat)), some (.int (t.outs : Nat)), some (.ref F0), none, none, none, none, none, none, none, none, none, none] ∧ H = G) (fun D1 hD1 => ⟨_, rfl, _, _, rfl, SqT.of ha, rfl, _, _, rfl, _, _, rfl, _, _, rfl, rfl, hD1 _ _ ⟨rfl, rfl⟩⟩) ?_
  rintro τ G ⟨rfl, rfl⟩
  refine seq_split (fun τ G => ∃ i : Nat, i < t.stgs.length ∧ τ = [some (.ref p), some (.ref a), some (.int (t.ins : Nat)), some (.int (t.outs : Nat)), some (.ref F0), some (.int (i : Nat)), none, none, none, none, none, none, none, none, none] ∧ Kp p H G ∧ Pot p G) (fun D1 hD1 => ?_) ?_
  · refine ⟨_, rfl, _, rfl, _, _, rfl, .inl (SqL.of hF), ?_⟩
    dsimp only [tNil]
    refine ⟨p, _, rfl, p0, by omega, by omega, fun d H1 d0 d1 kp1 p1 => ?_⟩
    obtain ⟨i, rfl⟩ := Int.eq_ofNat_of_zero_le d0
    exact hD1 _ _ ⟨i, by omega, rfl, kp1, p1⟩
  rintro τ H1 ⟨i, il, rfl, kp1, p1⟩
  have hS := List.getElem?_eq_getElem il
  generalize t.stgs[i] = S at hS
  have sok := tok.sg S (List.mem_of_getElem? hS)
  replace hus := hus.kpp kp1
  obtain ⟨u, hu, tvu⟩ := hus.get (i := i) (d := toD S) (by rw [List.getElem?_map, hS]; rfl)
  obtain ⟨e, qq, ws, rfl, ne, he, nq, hq, hws⟩ := to_tv tvu
  obtain ⟨k1, k2, k3⟩ := id sok
  have lws : ws.length = S.rows.length := by rw [hws.len, List.length_map]
  have mr1 : 2 ≤ S.reads.many := by cases S.reads <;> decide
  have mr2 : S.reads.many ≤ 4 := by cases S.reads <;> decide
  refine seq_split (fun τ G => τ = [some (.ref p), some (.ref a), some (.int (t.ins : Nat)), some (.int (t.outs : Nat)), some (.ref F0), some (.int (i : Nat)), some (.str S.reads.s), some (.ref qq), none, none, none, none, none, none, none] ∧ H1 = G) (fun D1 hD1 => ⟨_, rfl, _, rfl, _, _, _, _, rfl, rfl, SqL.of (kp1 _ _ nF hF), atI_nat hu, _, _, rfl, SqT.of he, rfl, _, _, rfl, _, _, rfl, rfl, hD1 _ _ ⟨rfl, rfl⟩⟩) ?_
  rintro τ G ⟨rfl, rfl⟩
  refine seq_split (fun τ G => ∃ sp : Nat, sp < S.rows.length ∧ τ = [some (.ref p), some (.ref a), some (.int (t.ins : Nat)), some (.int (t.outs : Nat)), some (.ref F0), some (.int (i : Nat)), some (.str S.reads.s), some (.ref qq), some (.int (sp : Nat)), none, none, none, none, none, none] ∧ Kp p H1 G ∧ Pot p G) (fun D1 hD1 => ?_) ?_
  · refine ⟨_, rfl, _, rfl, _, _, rfl, .inl (SqL.of hq), ?_⟩
    dsimp only [tNil]
    refine ⟨p, _, rfl, p1, by omega, by omega, fun d H2 d0' d1' kp2 p2 => ?_⟩
    obtain ⟨sp, rfl⟩ := Int.eq_ofNat_of_zero_le d0'
    exact hD1 _ _ ⟨sp, by omega, rfl, kp2, p2⟩
  rintro τ H2 ⟨sp, lsp2, rfl, kp2, p2⟩
  have hr' := List.getElem?_eq_getElem lsp2
  generalize S.rows[sp] = r at hr'
  have rok := k3 r (List.mem_of_getElem? hr')
  replace hus := hus.kpp kp2
  replace hws := hws.kpp kp2
  obtain ⟨y, hy, tvy⟩ := hws.get (i := sp) (d := rwD r) (by rw [List.getElem?_map, hr']; rfl)
  obtain ⟨b, g, rfl, hb, hg⟩ := rwA_tv tvy
  have hg : H2 g = some (.tup (tV r.gives)) := hg
  refine seq_split (fun τ G => τ = [some (.ref p), some (.ref a), some (.int (t.ins : Nat)), some (.int (t.outs : Nat)), some (.ref F0), some (.int (i : Nat)), some (.str S.reads.s), some (.ref qq), some (.int (sp : Nat)), some (.ref g), some (.int (r.goal : Nat)), some (.int (r.ticks : Nat)), none, none, none] ∧ H2 = G) (fun D1 hD1 => ⟨_, rfl, _, rfl, _, _, _, _, rfl, rfl, SqL.of (kp2 _ _ nq hq), atI_nat hy, _, _, rfl, SqT.of hb, rfl, _, _, rfl, _, _, rfl, _, _, rfl, rfl, hD1 _ _ ⟨rfl, rfl⟩⟩) ?_
  rintro τ G ⟨rfl, rfl⟩
  -- turned
  refine seq_split (fun τ G => ∃ g2 : Addr, τ = [some (.ref p), some (.ref a), some (.int (t.ins : Nat)), some (.int (t.outs : Nat)), some (.ref F0), some (.int (i : Nat)), some (.str S.reads.s), some (.ref qq), some (.int (sp : Nat)), some (.ref g), some (.int (r.goal : Nat)), some (.int (r.ticks : Nat)), some (.ref g2), none, none] ∧ Same H2 G ∧ G g2 = some (.tup (tV (r.gives.map turnT)))) (fun D1 hD1 => ?_) ?_
  · refine ⟨_, rfl, g, rfl, ⟨_, SqT.of hg⟩, fun D hD => lc_it walk_tup (fun j H' => Same H2 H' ∧ H' D = some (.lst (tV ((r.gives.take j).map turnT)))) ⟨same_new hD _, upd_same⟩ (fun j H' _ z => SqT.of (z.1 _ _ hg)) ?_ ?_⟩
    · rintro j x G1 G2 hj ⟨sm, hd⟩ ⟨rfl, hx⟩
      obtain ⟨bt, hbt, rfl⟩ := List.getElem?_map_some hx
      have hjl := lt_len hbt
      have r1 := rok.1
      have o2 := tok.o2
      have fin : ∀ z : Str, z = tx (turnT bt) → ∃ Lv, G2 D = some (.lst Lv) ∧ Lv.length < sizeLine ∧ Same H2 (upd G2 D (.lst (Lv ++ [.str z]))) ∧ (upd G2 D (.lst (Lv ++ [.str z]))) D = some (.lst (tV ((r.gives.take (j + 1)).map turnT))) := fun z ez => by
        refine ⟨_, hd, ?_, same_at sm hD, ?_⟩
        · rw [tV_len, List.length_map, List.length_take]
          exact Nat.lt_of_lt_of_le (show _ < 100000 by omega) (by decide)
        · rw [upd_same, List.take_add_one, hbt, ez]
          unfold tV
          simp
      refine ⟨rfl, tyI ⟨_, rfl, rfl, _, rfl, ?_⟩⟩
      by_cases zb : bt = [false]
      · exact iteFd (by rw [zb]; decide +kernel) (fin "" (by rw [zb]; decide +kernel))
      · refine iteTd (by
          show (!decide (V.str (tx bt) = V.str "0")) = true
          rw [decide_eq_false fun e => zb (tx_inj ((V.str.inj e).trans (show ("0" : Str) = tx [false] by decide +kernel)))]
          rfl) (fin "0" ?_)
        unfold turnT
        rw [if_neg zb]
        decide +kernel
    rintro H3 ⟨s3, hd⟩
    rw [tV_len, List.take_length] at hd
    refine ⟨_, _, rfl, .inl ⟨SqL.of hd, fun g2 hg2 => ?_⟩⟩
    exact hD1 _ _ ⟨g2, rfl, s3.trans' (same_new hg2 (.tup (tV (r.gives.map turnT)))), upd_same⟩
  rintro τ H4 ⟨g2, rfl, s4, hgt4⟩
  have p4 := p2.same s4
  have hg4 := s4 _ _ hg
  -- fresh
  refine seq_split (fun τ G => ∃ (x : V) (r' : Rw), τ = [some (.ref p), some (.ref a), some (.int (t.ins : Nat)), some (.int (t.outs : Nat)), some (.ref F0), some (.int (i : Nat)), some (.str S.reads.s), some (.ref qq), some (.int (sp : Nat)), some (.ref g), some (.int (r.goal : Nat)), some (.int (r.ticks : Nat)), some (.ref g2), some x, none] ∧ Kp p H4 G ∧ Pot p G ∧ Tv p G x (rwD r') ∧ r'.ok t.outs t.stgs.length ∧ r' ≠ r) (fun D1 hD1 => ?_) ?_
  · refine ⟨_, rfl, _, rfl, _, rfl, _, rfl, .inl ⟨_, rfl, _, _, rfl, rfl, (by dsimp only; decide), _, _, rfl, rfl, sz rfl, fun C1 hC1 => ⟨_, rfl, _, rfl, _, rfl, sz rfl, fun C2 hC2 => ⟨sz rfl, fun L hL => ?_⟩⟩⟩⟩
    have n1 := same_new hC1 (.tup [V.ref g, .int (r.goal : Nat), .int (1 + (r.ticks : Int) % 9)])
    have n2 := same_new hC2 (.tup [V.ref g2, .int (r.goal : Nat), .int (r.ticks : Nat)])
    have n3 := same_new hL (.lst [V.ref C1, .ref C2])
    have s7 := (n1.trans' n2).trans' n3
    have p7 := p4.same s7
    dsimp only [tNil]
    refine ⟨p, L, _, rfl, p7, p4.ne (none_ofS (n1.trans' n2) hL), upd_same, by show 0 < 2; decide, by show 2 ≤ 100; decide, fun x H8 hx kp8 p8 => ?_⟩
    have rw1 : RwA _ (.ref C1) r.late := ⟨C1, g, rfl, n3 _ _ (n2 _ _ upd_same), s7 _ _ hg4⟩
    have rw2 : RwA _ (.ref C2) r.turn := ⟨C2, g2, rfl, n3 _ _ upd_same, s7 _ _ hgt4⟩
    have hx' : x = .ref C1 ∨ x = .ref C2 := by simpa using hx
    rcases hx' with rfl | rfl
    · exact hD1 _ _ ⟨_, r.late, rfl, (Kp.of s7).trans kp8, p8, (rw1.tv p7.nt).kp kp8, Rw.late_ok rok, Rw.late_ne rok⟩
    · exact hD1 _ _ ⟨_, r.turn, rfl, (Kp.of s7).trans kp8, p8, (rw2.tv p7.nt).kp kp8, Rw.turn_ok rok, Rw.turn_ne rok tok.o1⟩
  rintro τ H8 ⟨x, r', rfl, kp8, p8, hxr, rok', rne⟩
  have kp28 : Kp p H2 H8 := (Kp.of s4).trans kp8
  replace hus := hus.kpp kp28
  replace hws := hws.kpp kp28
  have hF8 := kp28 _ _ nF (kp2 _ _ nF (kp1 _ _ nF hF))
  have hq8 := kp28 _ _ nq (kp2 _ _ nq hq)
  have kpH : Kp p H H8 := (kp1.trans kp2).trans kp28
  -- what is told
  refine ⟨_, rfl, _, rfl, ?_⟩
  refine splice_q rfl rfl hF8 (by omega) fun H9 s9 Q1 hQ1 => ?_
  refine ⟨_, rfl, ?_⟩
  refine splice_q rfl rfl (s9 _ _ hq8) (by omega) fun H10 s10 Q2 hQ2 => ⟨_, rfl, hQ2 _ _ (fun _ _ e => e) fun H11 X s11 nX hX => ⟨sz rfl, fun C3 hC3 => ?_⟩⟩
  have n12 := same_new hC3 (.tup [.str S.reads.s, .ref X])
  refine hQ1 _ _ ((s10.trans' s11).trans' n12) fun H13 Y s13 nY hY => ⟨sz rfl, fun A hA => ?_⟩
  have n14 := same_new hA (.tup [.int (t.ins : Nat), .int (t.outs : Nat), .ref Y])
  have s12 := ((s9.trans' s10).trans' s11).trans' n12
  have s14 := (s12.trans' s13).trans' n14
  have pA := p8.same s14
  have nX' : X ≠ p := (p8.same (s9.trans' s10)).ne nX
  have nC : C3 ≠ p := (p8.same ((s9.trans' s10).trans' s11)).ne hC3
  have nY' : Y ≠ p := (p8.same s12).ne nY
  have nA' : A ≠ p := (p8.same (s12.trans' s13)).ne hA
  have tvS : Tv p (upd H13 A (.tup [.int (t.ins : Nat), .int (t.outs : Nat), .ref Y])) (.ref C3) (toD (S.put sp r')) :=
    .tup nC (n14 _ _ (s13 _ _ upd_same)) (.cons (.str _) (.cons (.lst nX' (n14 _ _ (s13 _ _ (n12 _ _ hX))) (tv_set (f := rwD) (hws.same s14) (hxr.same s14) lsp2)) .nil))
  exact q (.ref A) (t.put i (S.put sp r')) _ (.tup nA' upd_same (.cons (.int _) (.cons (.int _) (.cons (.lst nY' (n14 _ _ hY) (tv_set (f := toD) (hus.same s14) tvS il)) .nil)))) (Stn.put_ok tok (Sg.put_ok sok rok')) (Stn.put_ne hS (Sg.put_ne hr' rne)) (kpH.trans (Kp.of s14)) pA
end
end FY


set_option Elab.async false
set_option linter.all false
set_option maxRecDepth 100000
set_option maxHeartbeats 8000000
namespace FY
open PySem L2 FYR
/-! ## models that are unlike -/
def unS (t : Stn) (d : PyData) : Prop := ∃ t' : Stn, d = stD t' ∧ t'.ok ∧ t' ≠ t
def spAllUn : Sp := fun vs H Q _ => ∃ (p : Addr) (v : V) (t : Stn), vs = [.ref p, v] ∧ Pot p H ∧ Tv p H v (stD t) ∧ t.ok ∧ ∀ H' L us, Kp p H H' → Pot p H' → L ≠ p → H' L = some (.lst us) → AllZ (unS t) [p] H' us → us.length ≤ 6 → Q (.ref L) H'
structure OU (p L : Addr) (H : Hp) (t : Stn) (S : Sg) (us ws : List V) (n : Nat) (G : Hp) (vs : List V) : Prop where
  kp : Kp p H G
  po : Pot p G
  hS : G L = some (.lst vs)
  az : AllZ (unS t) [L, p] G vs
  tu : TZs [L, p] G us (t.stgs.map toD)
  tw : TZs [L, p] G ws (S.rows.map rwD)
  ln : vs.length ≤ n
section
variable {p L : Addr} {H : Hp} {t : Stn} {S : Sg} {us ws : List V} {n : Nat} {G G' : Hp} {vs : List V}
theorem OU.up (h : OU p L H t S us ws n G vs) {m : Nat} (l : n ≤ m) : OU p L H t S us ws m G vs := ⟨h.kp, h.po, h.hS, h.az, h.tu, h.tw, Nat.le_trans h.ln l⟩
theorem OU.same (h : OU p L H t S us ws n G vs) (s : Same G G') : OU p L H t S us ws n G' vs := ⟨h.kp.trans (Kp.of s), h.po.same s, s _ _ h.hS, h.az.same s, h.tu.same s, h.tw.same s, h.ln⟩
theorem OU.zl (h : OU p L H t S us ws n G vs) : ZL [L, p] G := fun z hz => by
  rcases List.mem_cons.mp hz with rfl | hz
  · exact ⟨_, h.hS⟩
  · rw [List.mem_singleton.mp hz]
    obtain ⟨x, y, e, _⟩ := h.po
    exact ⟨_, e⟩
theorem OU.add (h : OU p L H t S us ws n G vs) (f : H L = none) (np : L ≠ p) {v : V} {t' : Stn} (tv : TZ [L, p] G v (stD t')) (ok : t'.ok) (ne : t' ≠ t) : OU p L H t S us ws (n + 1) (upd G L (.lst (vs ++ [v]))) (vs ++ [v]) := by
  have k : ∀ o : HO, Kp L G (upd G L o) := fun o b u n e => (upd_ne n).trans e
  have m : L ∈ [L, p] := List.mem_cons_self ..
  refine ⟨kp_at h.kp f, pot_at h.po np, upd_same, (h.az.add tv ⟨t', rfl, ok, ne⟩).off m (k _), h.tu.off m (k _), h.tw.off m (k _), ?_⟩
  rw [List.length_append, List.length_singleton]
  have := h.ln
  omega
/-- a model's tuple, new -/
theorem OU.tup (h : OU p L H t S us ws n G vs) {C X : Addr} {t' : Stn} (hC : G C = some (.tup [.int (t'.ins : Nat), .int (t'.outs : Nat), .ref X])) (tx : TZ [L, p] G (.ref X) (.list (t'.stgs.map toD))) : TZ [L, p] G (.ref C) (stD t') :=
  tz_tup h.zl hC (TZs.cons (tz_int _) (TZs.cons (tz_int _) (TZs.one tx)))
theorem OU.lst (h : OU p L H t S us ws n G vs) (s : Same G G') {X : Addr} {xs : List V} {ds : List PyData} (nX : G X = none) (hX : G' X = some (.lst xs)) (tx : TZs [L, p] G' xs ds) : TZ [L, p] G' (.ref X) (.list ds) := tz_lst (fun z hz => h.zl.ne hz nX) hX tx
end
theorem tzs_set {Z : List Addr} {H : Hp} {α : Type} {f : α → PyData} {ws : List V} {rs : List α} {x : V} {r : α} {i : Nat} (h : TZs Z H ws (rs.map f)) (hx : TZ Z H x (f r)) (il : i < rs.length) : TZs Z H (cutV ws none (some (i : Nat)) ++ [x] ++ cutV ws (some ((i + 1 : Nat) : Int)) none) ((rs.set i r).map f) := fun z hz => tv_set (h z hz) (hx z hz) il
section
variable {P : Program} {w : World} {K : PySem.W.Frag} {mg : Str → Option Value} {base : Heap} {aS a1 a2 aL aT : Addr} {f : Addr} {fd : FuncData} {C CD CY : Addr} {mc : Value}
abbrev s_law_all_unlike : Stmt := top 41
abbrev N_law_all_unlike : List Str := ["_law_pot_here", "_law_model_here", "_law_near", "_law_far", "_law_found", "_law_at", "_law_told", "_law_rows", "_law_some", "_law_gives", "_law_goal", "_law_lasts", "_law_bent", "_law_one"]
theorem sc_law_all_unlike : FnScope N_law_all_unlike ["_law_pot_here", "_law_model_here"] (defScope s_law_all_unlike) := ⟨rfl, rfl, rfl, by decide +kernel, rfl, by decide +kernel, by decide +kernel⟩
theorem ok_law_all_unlike (F : Fun K "_law_all_unlike" "_law_all_unlike" s_law_all_unlike f fd) (T : Txt K mg aS a1 a2) (c__law_draw : C8.Cal P w K mg base 1 "_law_draw" spDraw []) (c__law_unlike : C8.Cal P w K mg base 3 "_law_unlike" spUnlike []) : FnOk P w K mg base CX0 4 f fd ["_law_pot_here", "_law_model_here"] spAllUn := by
  refine F.ok sc_law_all_unlike (fun vs H Q E h => ?_) (fun cdv A outer s H vs Q E hr h => ?_)
  · obtain ⟨p, v, t, rfl, _⟩ := h
    rfl
  obtain ⟨p, v, t, rfl, p0, tv0, tok, q⟩ := h
  refine ⟨_, (pss_cons (ps_asg (pv 1) (kTupG (n := 3) K rfl rfl (pgs_cons (pg_name (i := 2) sc_law_all_unlike.nd rfl (Or.inl rfl)) (pgs_cons (pg_name (i := 3) sc_law_all_unlike.nd rfl (Or.inl rfl)) (pgs_cons (pg_name (i := 4) sc_law_all_unlike.nd rfl (Or.inl rfl)) pgs_nil)))))
        (pss_cons (ps_set (i := 5) sc_law_all_unlike.nd rfl (Or.inl rfl) (C8.pe_c c__law_draw hr (by decide) rfl (pa_cons (pv 0) (pa_cons (pe_callB (kLen K rfl) rfl T.b_len bt_len (pa_cons (pv 4) pa_nil)) pa_nil))))
        (pss_cons (ps_asg (pe_ix (kIxL K rfl) (pv 4) (pv 5) (fun _ _ => rfl)) (kTupG (n := 2) K rfl rfl (pgs_cons (pg_name (i := 6) sc_law_all_unlike.nd rfl (Or.inl rfl)) (pgs_cons (pg_name (i := 7) sc_law_all_unlike.nd rfl (Or.inl rfl)) pgs_nil))))
        (pss_cons (ps_set (i := 8) sc_law_all_unlike.nd rfl (Or.inl rfl) (pe_lst (pa_cons (C8.pe_c c__law_unlike hr (by decide) rfl (pa_cons (pv 0) (pa_cons (pv 1) pa_nil))) pa_nil)))
        (pss_cons (ps_if (pt_val (pe_callB (kAll K rfl rfl) rfl T.b_all bt_all (pa_cons (pe_lc (own := [("_law_one", 13)]) rfl sc_law_all_unlike.nd (kList K rfl (pv 4)) (blkOk_by (N := N_law_all_unlike) (sc := defScope s_law_all_unlike) (by decide +kernel)) (fun _ _ _ _ _ => (pg_name (i := 13) sc_law_all_unlike.nd rfl (Or.inl rfl))) (fun _ _ _ _ _ => pts_nil) (fun _ _ _ _ _ => (pe_cmpR op_eq (pe_ix (kIxT K rfl) (pv 13) pe_int (fun _ _ => rfl)) pe_str (nomark _)))) pa_nil)))
        (pss_one (ps_expr (kBm K rfl PySem.F.plainAttrs_list PySem.F.slot_list_append PySem.F.type_list_append mt_append (pv 8) (pa_cons (pe_tup (pa_cons (pe_op op_sub pe_int (pv 2)) (pa_cons (pv 3) (pa_cons (pv 4) pa_nil)))) pa_nil))))
        pss_nil)
        (pss_cons (ps_if (PW.pt (pw_and (pt_cmpR op_eq (pv 2) pe_int (nomark _)) (pw_and1 (pt_cmpR op_ne (pv 6) pe_str (nomark _)))))
        (pss_one (ps_expr (kBm K rfl PySem.F.plainAttrs_list PySem.F.slot_list_append PySem.F.type_list_append mt_append (pv 8) (pa_cons (pe_tup (pa_cons (pv 2) (pa_cons (pv 3) (pa_cons (pe_op op_cat (pe_op op_cat (pe_slice (kSlL K rfl) (pv 4) po_none (po_some (pv 5))) (pe_lst (pa_cons (pe_tup (pa_cons (pe_ifExp (pt_cmpR op_eq (pv 6) pe_str (nomark _)) pe_str pe_str) (pa_cons (pv 7) pa_nil))) pa_nil))) (pe_slice (kSlL K rfl) (pv 4) (po_some (pe_op op_add (pv 5) pe_int)) po_none)) pa_nil)))) pa_nil))))
        pss_nil)
        (pss_cons (ps_if (pt_cmpR op_gt (pe_callB (kLen K rfl) rfl T.b_len bt_len (pa_cons (pv 4) pa_nil)) pe_int (nomark _))
        (pss_cons (ps_asg (pe_ix (kIxL K rfl) (pv 7) pe_int (fun _ _ => rfl)) (kTupG (n := 3) K rfl rfl (pgs_cons (pg_name (i := 9) sc_law_all_unlike.nd rfl (Or.inl rfl)) (pgs_cons (pg_name (i := 10) sc_law_all_unlike.nd rfl (Or.inl rfl)) (pgs_cons (pg_name (i := 11) sc_law_all_unlike.nd rfl (Or.inl rfl)) pgs_nil)))))
        (pss_cons (ps_set (i := 12) sc_law_all_unlike.nd rfl (Or.inl rfl) (pe_op op_cat (pe_lst (pa_cons (pe_tup (pa_cons (pv 9) (pa_cons (pe_op op_mod (pe_callTy call_int1 rfl T.b_int bt_int (pa_cons (pe_op op_add (pv 10) pe_int) pa_nil)) (pe_callB (kLen K rfl) rfl T.b_len bt_len (pa_cons (pv 4) pa_nil))) (pa_cons (pv 11) pa_nil)))) pa_nil)) (pe_slice (kSlL K rfl) (pv 7) (po_some pe_int) po_none)))
        (pss_one (ps_expr (kBm K rfl PySem.F.plainAttrs_list PySem.F.slot_list_append PySem.F.type_list_append mt_append (pv 8) (pa_cons (pe_tup (pa_cons (pv 2) (pa_cons (pv 3) (pa_cons (pe_op op_cat (pe_op op_cat (pe_slice (kSlL K rfl) (pv 4) po_none (po_some (pv 5))) (pe_lst (pa_cons (pe_tup (pa_cons (pv 6) (pa_cons (pv 12) pa_nil))) pa_nil))) (pe_slice (kSlL K rfl) (pv 4) (po_some (pe_op op_add (pv 5) pe_int)) po_none)) pa_nil)))) pa_nil))))))
        pss_nil)
        (pss_cons (ps_if (pt_cmpR op_lt (pe_callB (kLen K rfl) rfl T.b_len bt_len (pa_cons (pv 4) pa_nil)) pe_int (nomark _))
        (pss_one (ps_expr (kBm K rfl PySem.F.plainAttrs_list PySem.F.slot_list_append PySem.F.type_list_append mt_append (pv 8) (pa_cons (pe_tup (pa_cons (pv 2) (pa_cons (pv 3) (pa_cons (pe_op op_cat (pv 4) (pe_slice (kSlL K rfl) (pv 4) po_none (po_some pe_int))) pa_nil)))) pa_nil))))
        pss_nil)
        (pss_one (ps_ret (pv 8))))))))))), ?_⟩
  obtain ⟨a, F0, us, rfl, na, ha, nF, hF, hus⟩ := st_tv tv0
  have lus := hus.len
  rw [List.length_map] at lus
  have m1 := tok.m1
  have m4 := tok.m2
  have i2 := tok.i2
  have i1 := tok.i1
  refine seq_split (fun τ G => τ = [some (.ref p), some (.ref a), some (.int (t.ins : Nat)), some (.int (t.outs : Nat)), some (.ref F0), none, none, none, none, none, none, none, none, none] ∧ H = G) (fun D1 hD1 => ⟨_, rfl, _, _, rfl, SqT.of ha, rfl, _, _, rfl, _, _, rfl, _, _, rfl, rfl, hD1 _ _ ⟨rfl, rfl⟩⟩) ?_
  rintro τ G ⟨rfl, rfl⟩
  refine seq_split (fun τ G => ∃ i : Nat, i < t.stgs.length ∧ τ = [some (.ref p), some (.ref a), some (.int (t.ins : Nat)), some (.int (t.outs : Nat)), some (.ref F0), some (.int (i : Nat)), none, none, none, none, none, none, none, none] ∧ Kp p H G ∧ Pot p G) (fun D1 hD1 => ?_) ?_
  · refine ⟨_, rfl, _, rfl, _, _, rfl, .inl (SqL.of hF), ?_⟩
    dsimp only [tNil]
    refine ⟨p, _, rfl, p0, by omega, by omega, fun d H1 d0 d1 kp1 p1 => ?_⟩
    obtain ⟨i, rfl⟩ := Int.eq_ofNat_of_zero_le d0
    exact hD1 _ _ ⟨i, by omega, rfl, kp1, p1⟩
  rintro τ H1 ⟨i, il, rfl, kp1, p1⟩
  have hS := List.getElem?_eq_getElem il
  generalize t.stgs[i] = S at hS
  have sok := tok.sg S (List.mem_of_getElem? hS)
  replace hus := hus.kpp kp1
  obtain ⟨u, hu, tvu⟩ := hus.get (i := i) (d := toD S) (by rw [List.getElem?_map, hS]; rfl)
  obtain ⟨e, qq, ws, rfl, ne, he, nq, hq, hws⟩ := to_tv tvu
  obtain ⟨k1, k2, k3⟩ := id sok
  have lws : ws.length = S.rows.length := by rw [hws.len, List.length_map]
  have mr1 : 2 ≤ S.reads.many := by cases S.reads <;> decide
  have mr2 : S.reads.many ≤ 4 := by cases S.reads <;> decide
  refine seq_split (fun τ G => τ = [some (.ref p), some (.ref a), some (.int (t.ins : Nat)), some (.int (t.outs : Nat)), some (.ref F0), some (.int (i : Nat)), some (.str S.reads.s), some (.ref qq), none, none, none, none, none, none] ∧ H1 = G) (fun D1 hD1 => ⟨_, rfl, _, rfl, _, _, _, _, rfl, rfl, SqL.of (kp1 _ _ nF hF), atI_nat hu, _, _, rfl, SqT.of he, rfl, _, _, rfl, _, _, rfl, rfl, hD1 _ _ ⟨rfl, rfl⟩⟩) ?_
  rintro τ G ⟨rfl, rfl⟩
  -- the first
  refine seq_split (fun τ G => ∃ (L : Addr) (vs : List V), τ = [some (.ref p), some (.ref a), some (.int (t.ins : Nat)), some (.int (t.outs : Nat)), some (.ref F0), some (.int (i : Nat)), some (.str S.reads.s), some (.ref qq), some (.ref L), none, none, none, none, none] ∧ H1 L = none ∧ OU p L H1 t S us ws 1 G vs) (fun D1 hD1 => ?_) ?_
  · refine ⟨_, rfl, _, rfl, ?_⟩
    dsimp only [tNil]
    refine ⟨p, .ref a, t, rfl, p1, tv0.kp kp1, tok, fun v' t' G tv' ok' ne' kp po => ⟨sz rfl, fun L hL => ?_⟩⟩
    have n1 := same_new hL (.lst [v'])
    have f1 : H1 L = none := by
      cases z : H1 L with
      | none => rfl
      | some o => rw [kp L o (po.ne hL) z] at hL; cases hL
    have mp : p ∈ [p] := List.mem_singleton.mpr rfl
    have all : ∀ {vs : List V} {ds : List PyData}, TvAll p G vs ds → TZs [L, p] (upd G L (.lst [v'])) vs ds := fun h => (TZs.fresh (Z := [p]) (z := p) (fun z hz => by rw [List.mem_singleton.mp hz]; exact h) mp hL).same n1
    exact hD1 _ _ ⟨L, [v'], rfl, f1, kp.trans (Kp.of n1), po.same n1, upd_same, fun x hx => by
      rw [List.mem_singleton.mp hx]
      exact ⟨stD t', ((TZ.fresh (Z := [p]) (z := p) (fun z hz => by rw [List.mem_singleton.mp hz]; exact tv') mp hL).same n1), t', rfl, ok', ne'⟩, all (hus.kpp kp), all (hws.kpp kp), Nat.le_refl _⟩
  rintro τ H2 ⟨L, vs1, rfl, fL, ou1⟩
  have nLp : L ≠ p := fun z => by
    obtain ⟨x, y, h, _⟩ := p1
    rw [z, h] at fL
    cases fL
  have hF1 := kp1 _ _ nF hF
  have nFL : F0 ≠ L := fun z => by rw [z, fL] at hF1; cases hF1
  have hFG : ∀ {n : Nat} {G : Hp} {vs : List V}, OU p L H1 t S us ws n G vs → G F0 = some (.lst us) := fun o => o.kp _ _ nF hF1
  have tzF : ∀ {n : Nat} {G : Hp} {vs : List V}, OU p L H1 t S us ws n G vs → TZ [L, p] G (.ref F0) (.list (t.stgs.map toD)) := fun o => tz_lst (fun z hz => by
    rcases List.mem_cons.mp hz with rfl | hz
    · exact nFL
    · rw [List.mem_singleton.mp hz]; exact nF) (hFG o) o.tu
  -- the other number of lines
  refine seq_split (fun τ G => ∃ vs : List V, τ = [some (.ref p), some (.ref a), some (.int (t.ins : Nat)), some (.int (t.outs : Nat)), some (.ref F0), some (.int (i : Nat)), some (.str S.reads.s), some (.ref qq), some (.ref L), none, none, none, none, none] ∧ OU p L H1 t S us ws 2 G vs) (fun D1 hD1 => ?_) ?_
  · refine ⟨_, rfl, F0, rfl, ⟨_, SqL.of (hFG ou1)⟩, fun D hD => lc_it walk_list (fun j G => Same H2 G ∧ G D = some (.lst ((t.stgs.take j).map fun s => V.bl (decide (s.reads = .one))))) ⟨same_new hD _, upd_same⟩ (fun j G _ z => SqL.of (z.1 _ _ (hFG ou1))) ?_ ?_⟩
    · rintro j x G1 G2 hj ⟨sm, hd⟩ ⟨rfl, hx⟩
      obtain ⟨d, hd', tvx⟩ := (ou1.tu p (List.mem_cons_of_mem _ (List.mem_singleton.mpr rfl))).at hx
      obtain ⟨s', hs', rfl⟩ := List.getElem?_map_some hd'
      obtain ⟨e', q', ws', rfl, _, he', _⟩ := to_tv (tvx.same sm)
      have hjl := lt_len hs'
      refine ⟨rfl, tyI ⟨_, rfl, _, _, _, _, rfl, rfl, SqT.of he', atI_nat (j := 0) rfl, rfl, _, hd, ?_, same_at sm hD, ?_⟩⟩
      · rw [List.length_map, List.length_take]
        exact Nat.lt_of_lt_of_le (show _ < 100000 by omega) (by decide)
      · rw [upd_same, List.take_add_one, hs', List.map_append]
        have e2 : decide (V.str s'.reads.s = V.str "1") = decide (s'.reads = .one) := decide_eq_decide.mpr ⟨fun e => rdS_inj _ _ (V.str.inj e), fun e => by rw [e]; rfl⟩
        rw [e2]
        rfl
    rintro G ⟨sm, hd⟩
    rw [lus, List.take_length] at hd
    refine ⟨_, t.stgs.map fun s => decide (s.reads = .one), rfl, SqL.of (by rw [hd, List.map_map]; rfl), _, rfl, ?_⟩
    cases eb : ((t.stgs.map fun s => decide (s.reads = .one)).all fun b => b) with
    | false => exact iteFd eb (hD1 _ _ ⟨vs1, rfl, (ou1.same sm).up (by decide)⟩)
    | true =>
      have ones : ∀ s ∈ t.stgs, s.reads = .one := fun s hs => of_decide_eq_true (List.all_eq_true.mp eb _ (List.mem_map.mpr ⟨s, hs, rfl⟩))
      have ouG := ou1.same sm
      refine iteTd eb ⟨_, rfl, .inl ⟨rfl, _, SqL.of ouG.hS⟩, ?_⟩
      refine ⟨_, rfl, _, _, rfl, rfl, _, rfl, _, rfl, sz rfl, fun C hC => ?_⟩
      have e3 : (3 : Int) - (t.ins : Int) = ((3 - t.ins : Nat) : Int) := by omega
      dsimp only
      rw [e3]
      have n1 := same_new hC (.tup [.int ((3 - t.ins : Nat) : Int), .int (t.outs : Nat), .ref F0])
      have ouC := ouG.same n1
      refine ⟨_, _, _, rfl, rfl, ouC.hS, ?_, ?_⟩
      · exact Nat.lt_of_le_of_lt ouC.ln (by decide)
      · exact hD1 _ _ ⟨_, rfl, ouC.add fL nLp (ouC.tup (t' := t.flip) upd_same (tzF ouC)) (Stn.flip_ok tok ones) Stn.flip_ne⟩
  rintro τ H3 ⟨vs2, rfl, ou2⟩
  -- the other line
  refine seq_split (fun τ G => ∃ vs : List V, τ = [some (.ref p), some (.ref a), some (.int (t.ins : Nat)), some (.int (t.outs : Nat)), some (.ref F0), some (.int (i : Nat)), some (.str S.reads.s), some (.ref qq), some (.ref L), none, none, none, none, none] ∧ OU p L H1 t S us ws 3 G vs) (fun D1 hD1 => ?_) ?_
  · have skip : D1.nx [some (.ref p), some (.ref a), some (.int (t.ins : Nat)), some (.int (t.outs : Nat)), some (.ref F0), some (.int (i : Nat)), some (.str S.reads.s), some (.ref qq), some (.ref L), none, none, none, none, none] H3 := hD1 _ _ ⟨vs2, rfl, ou2.up (by decide)⟩
    refine ⟨_, rfl, rfl, _, rfl, ?_⟩
    by_cases ei : t.ins = 2
    case neg => exact iteFd (decide_eq_false fun e => ei (by have := V.int.inj e; omega)) skip
    refine iteTd (by rw [ei]; rfl) ⟨_, rfl, rfl, _, rfl, ?_⟩
    by_cases eb : S.reads = .both
    case pos => exact iteFd (by rw [eb]; decide +kernel) skip
    refine iteTd (by
      show (!decide (V.str S.reads.s = V.str "12")) = true
      have nb : ¬ (V.str S.reads.s = V.str "12") := fun e => eb (rdS_inj _ .both (V.str.inj e))
      rw [decide_eq_false nb]
      rfl) ⟨_, rfl, .inl ⟨rfl, _, SqL.of ou2.hS⟩, ?_⟩
    refine ⟨_, rfl, _, rfl, ?_⟩
    refine splice_q rfl rfl (hFG ou2) (by omega) fun H5 s5 Q1 hQ1 => ?_
    have tq : TZ [L, p] H3 (.ref qq) (.list (S.rows.map rwD)) := tz_lst (fun z hz => by
      rcases List.mem_cons.mp hz with rfl | hz
      · exact fun e => by rw [e, fL] at hq; cases hq
      · rw [List.mem_singleton.mp hz]; exact nq) (ou2.kp _ _ nq hq) ou2.tw
    have swp : ∀ (st : Str), st = S.swap.reads.s → tTup (tCons (tC (V.str st)) (tCons (tVar 7) tNil)) [some (.ref p), some (.ref a), some (.int (t.ins : Nat)), some (.int (t.outs : Nat)), some (.ref F0), some (.int (i : Nat)), some (.str S.reads.s), some (.ref qq), some (.ref L), none, none, none, none, none] H5 Q1 := fun st est => by
      refine ⟨_, rfl, sz rfl, fun C3 hC3 => ?_⟩
      have n6 := same_new hC3 (.tup [.str st, .ref qq])
      refine hQ1 _ _ n6 fun H7 X s7 nX hX => ?_
      have s67 := (s5.trans' n6).trans' s7
      refine ⟨sz rfl, fun C hC => ?_⟩
      have n8 := same_new hC (.tup [.int (t.ins : Nat), .int (t.outs : Nat), .ref X])
      have s68 := s67.trans' n8
      have ouC := ou2.same s68
      have tC3 : TZ [L, p] (upd H7 C (.tup [.int (t.ins : Nat), .int (t.outs : Nat), .ref X])) (.ref C3) (toD S.swap) := by
        rw [show toD S.swap = .tuple [.str st, .list (S.rows.map rwD)] by rw [est]; rfl]
        exact tz_tup ouC.zl (n8 _ _ (s7 _ _ upd_same)) (TZs.cons (tz_str st) (TZs.one (tq.same s68)))
      have tX : TZ [L, p] (upd H7 C (.tup [.int (t.ins : Nat), .int (t.outs : Nat), .ref X])) (.ref X) (.list ((t.put i S.swap).stgs.map toD)) := (ou2.same (s5.trans' n6)).lst (s7.trans' n8) nX (n8 _ _ hX) (tzs_set ouC.tu tC3 il)
      refine ⟨_, _, _, rfl, rfl, ouC.hS, Nat.lt_of_le_of_lt ouC.ln (by decide), ?_⟩
      exact hD1 _ _ ⟨_, rfl, ouC.add fL nLp (ouC.tup (t' := t.put i S.swap) upd_same tX) (Stn.put_ok tok (by rw [ei] at sok ⊢; exact Sg.swap_ok sok eb)) (Stn.put_ne hS (Sg.swap_ne eb))⟩
    refine ⟨_, rfl, rfl, _, rfl, ?_⟩
    by_cases e1 : S.reads = .one
    · refine iteTd (by rw [e1]; decide +kernel) (swp "2" ?_)
      show ("2" : Str) = (if S.reads = .one then Rd.two else Rd.one).s
      rw [if_pos e1]; rfl
    · refine iteFd (decide_eq_false fun e => e1 (rdS_inj _ .one (V.str.inj e))) (swp "1" ?_)
      show ("1" : Str) = (if S.reads = .one then Rd.two else Rd.one).s
      rw [if_neg e1]; rfl
  rintro τ H4 ⟨vs3, rfl, ou3⟩
  -- the other goal
  refine seq_split (fun τ G => ∃ (vs : List V) (x9 x10 x11 x12 : Option V), τ = [some (.ref p), some (.ref a), some (.int (t.ins : Nat)), some (.int (t.outs : Nat)), some (.ref F0), some (.int (i : Nat)), some (.str S.reads.s), some (.ref qq), some (.ref L), x9, x10, x11, x12, none] ∧ OU p L H1 t S us ws 4 G vs) (fun D1 hD1 => ?_) ?_
  · refine ⟨_, rfl, F0, us, rfl, .inl (SqL.of (hFG ou3)), _, _, rfl, rfl, _, rfl, ?_⟩
    by_cases el : 1 < t.stgs.length
    case neg => exact iteFd (by rw [lus]; exact decide_eq_false fun e => el (by omega)) (hD1 _ _ ⟨vs3, _, _, _, _, rfl, ou3.up (by decide)⟩)
    refine iteTd (by rw [lus]; exact decide_eq_true (by omega)) ?_
    have lS0 : 0 < S.rows.length := by omega
    have hr0 := List.getElem?_eq_getElem lS0
    generalize S.rows[0] = r at hr0
    have rok := k3 r (List.mem_of_getElem? hr0)
    have mp : p ∈ [L, p] := List.mem_cons_of_mem _ (List.mem_singleton.mpr rfl)
    obtain ⟨y, hy, tvy⟩ := (ou3.tw p mp).get (i := 0) (d := rwD r) (by rw [List.getElem?_map, hr0]; rfl)
    obtain ⟨b, g, rfl, hb, hg⟩ := rwA_tv tvy
    have hq3 := ou3.kp _ _ nq hq
    refine seq_split (fun τ G => τ = [some (.ref p), some (.ref a), some (.int (t.ins : Nat)), some (.int (t.outs : Nat)), some (.ref F0), some (.int (i : Nat)), some (.str S.reads.s), some (.ref qq), some (.ref L), some (.ref g), some (.int (r.goal : Nat)), some (.int (r.ticks : Nat)), none, none] ∧ H4 = G) (fun D2 hD2 => ⟨_, rfl, _, _, _, _, rfl, rfl, SqL.of hq3, atI_nat hy, _, _, rfl, SqT.of hb, rfl, _, _, rfl, _, _, rfl, _, _, rfl, rfl, hD2 _ _ ⟨rfl, rfl⟩⟩) ?_
    rintro τ G ⟨rfl, rfl⟩
    have tzg : TZ [L, p] H4 (.ref g) (gvD r.gives) := tz_tup ou3.zl hg (fun z _ => tvall_str _)
    have rn : rwD (r.next t.stgs.length) = .tuple [gvD r.gives, .int (((r.goal + 1) % t.stgs.length : Nat) : Int), .int (r.ticks : Nat)] := rfl
    refine seq_split (fun τ G => ∃ (X : Addr) (xs : List V), τ = [some (.ref p), some (.ref a), some (.int (t.ins : Nat)), some (.int (t.outs : Nat)), some (.ref F0), some (.int (i : Nat)), some (.str S.reads.s), some (.ref qq), some (.ref L), some (.ref g), some (.int (r.goal : Nat)), some (.int (r.ticks : Nat)), some (.ref X), none] ∧ Same H4 G ∧ H4 X = none ∧ G X = some (.lst xs) ∧ TZs [L, p] G xs ((S.put 0 (r.next t.stgs.length)).rows.map rwD)) (fun D2 hD2 => ?_) ?_
    · refine ⟨_, rfl, _, rfl, _, _, rfl, rfl, .inl ⟨_, rfl, _, rfl, F0, us, rfl, .inl (SqL.of (hFG ou3)), ?_⟩⟩
      rw [lus]
      refine ⟨_, _, rfl, rfl, by show (0 : Int) < _; omega, _, rfl, sz rfl, fun C1 hC1 => ⟨sz rfl, fun X1 hX1 => ⟨_, rfl, _, rfl, qq, ws, rfl, ?_⟩⟩⟩
      have n1 := same_new hC1 (.tup [V.ref g, .int (((r.goal + 1) % t.stgs.length : Nat) : Int), .int (r.ticks : Nat)])
      have n2 := same_new hX1 (.lst [V.ref C1])
      refine ⟨SqL.of ((n1.trans' n2) _ _ hq3), fun X2 hX2 => ?_⟩
      have n3 := same_new hX2 (.lst (cutV ws (some 1) none))
      refine ⟨X1, X2, [.ref C1], _, rfl, rfl, n3 _ _ upd_same, upd_same, by rw [cut_d1, List.length_drop]; exact Nat.le_trans (show _ ≤ 8 by simp only [List.length_singleton]; omega) (by decide), fun X3 hX3 => ?_⟩
      have n4 := same_new hX3 (.lst ([V.ref C1] ++ cutV ws (some 1) none))
      have s14 := ((n1.trans' n2).trans' n3).trans' n4
      have zl5 := (ou3.same s14).zl
      have er : (S.put 0 (r.next t.stgs.length)).rows.map rwD = [rwD (r.next t.stgs.length)] ++ (S.rows.map rwD).drop 1 := by
        show (S.rows.set 0 _).map rwD = _
        cases hh : S.rows with
        | nil => rw [hh] at lS0; exact absurd lS0 (by decide)
        | cons x y => rfl
      refine hD2 _ _ ⟨X3, _, rfl, s14, none_ofS ((n1.trans' n2).trans' n3) hX3, upd_same, ?_⟩
      rw [er]
      have ec : cutV ws (some 1) none = ws.drop 1 := cut_d1 ws
      have t1 : TZs [L, p] _ [V.ref C1] [rwD (r.next t.stgs.length)] := TZs.one (tz_tup zl5 (n4 _ _ (n3 _ _ (n2 _ _ upd_same))) (TZs.cons (tzg.same s14) (TZs.cons (tz_int _) (TZs.one (tz_int _)))))
      have t2 := (ou3.tw.same s14).drop 1
      refine TZs.app t1 ?_
      have key : ∀ zs, zs = ws.drop 1 → TZs [L, p] (upd (upd (upd (upd H4 C1 (.tup [V.ref g, .int (((r.goal + 1) % t.stgs.length : Nat) : Int), .int (r.ticks : Nat)])) X1 (.lst [V.ref C1])) X2 (.lst (cutV ws (some 1) none))) X3 (.lst ([V.ref C1] ++ cutV ws (some 1) none))) zs ((S.rows.map rwD).drop 1) := fun zs e => by rw [e]; exact t2
      exact key _ ec
    rintro τ H5 ⟨X, xs, rfl, s5, nX, hX, tX⟩
    have ou5 := ou3.same s5
    refine ⟨_, rfl, .inl ⟨rfl, _, SqL.of ou5.hS⟩, _, rfl, _, rfl, ?_⟩
    refine splice_q rfl rfl (hFG ou5) (by omega) fun H6 s6 Q1 hQ1 => ⟨_, rfl, _, rfl, sz rfl, fun C3 hC3 => ?_⟩
    have n7 := same_new hC3 (.tup [.str S.reads.s, .ref X])
    refine hQ1 _ _ n7 fun H8 Y s8 nY hY => ⟨sz rfl, fun C hC => ?_⟩
    have n9 := same_new hC (.tup [.int (t.ins : Nat), .int (t.outs : Nat), .ref Y])
    have s69 := ((s6.trans' n7).trans' s8).trans' n9
    have ouC := ou5.same s69
    have tC3 : TZ [L, p] (upd H8 C (.tup [.int (t.ins : Nat), .int (t.outs : Nat), .ref Y])) (.ref C3) (toD (S.put 0 (r.next t.stgs.length))) :=
      tz_tup ouC.zl (n9 _ _ (s8 _ _ upd_same)) (TZs.cons (tz_str S.reads.s) (TZs.one (ou3.lst (s5.trans' s69) nX (s69 _ _ hX) (tX.same s69))))
    have tY : TZ [L, p] (upd H8 C (.tup [.int (t.ins : Nat), .int (t.outs : Nat), .ref Y])) (.ref Y) (.list ((t.put i (S.put 0 (r.next t.stgs.length))).stgs.map toD)) := (ou5.same (s6.trans' n7)).lst (s8.trans' n9) nY (n9 _ _ hY) (tzs_set ouC.tu tC3 il)
    refine ⟨_, _, _, rfl, rfl, ouC.hS, Nat.lt_of_le_of_lt ouC.ln (by decide), ?_⟩
    exact hD1 _ _ ⟨_, _, _, _, _, rfl, ouC.add fL nLp (ouC.tup (t' := t.put i (S.put 0 (r.next t.stgs.length))) upd_same tY) (Stn.put_ok tok (Sg.put_ok sok (Rw.next_ok rok))) (Stn.put_ne hS (Sg.put_ne hr0 (Rw.next_ne rok el)))⟩
  rintro τ H5 ⟨vs4, x9, x10, x11, x12, rfl, ou4⟩
  -- one more
  refine seq_split (fun τ G => ∃ vs : List V, τ = [some (.ref p), some (.ref a), some (.int (t.ins : Nat)), some (.int (t.outs : Nat)), some (.ref F0), some (.int (i : Nat)), some (.str S.reads.s), some (.ref qq), some (.ref L), x9, x10, x11, x12, none] ∧ OU p L H1 t S us ws 5 G vs) (fun D1 hD1 => ?_) ?_
  · refine ⟨_, rfl, F0, us, rfl, .inl (SqL.of (hFG ou4)), _, _, rfl, rfl, _, rfl, ?_⟩
    by_cases el : t.stgs.length < 4
    case neg => exact iteFd (by rw [lus]; exact decide_eq_false fun e => el (by omega)) (hD1 _ _ ⟨vs4, rfl, ou4.up (by decide)⟩)
    refine iteTd (by rw [lus]; exact decide_eq_true (by omega)) ⟨_, rfl, .inl ⟨rfl, _, SqL.of ou4.hS⟩, _, rfl, _, rfl, _, rfl, _, rfl, _, rfl, F0, us, rfl, SqL.of (hFG ou4), fun X1 hX1 => ?_⟩
    rw [cut_t1]
    have n1 := same_new hX1 (.lst (us.take 1))
    refine ⟨F0, X1, us, _, rfl, rfl, n1 _ _ (hFG ou4), upd_same, by rw [List.length_take]; exact Nat.le_trans (show _ ≤ 8 by omega) (by decide), fun X2 hX2 => ⟨sz rfl, fun C hC => ?_⟩⟩
    have n2 := same_new hX2 (.lst (us ++ us.take 1))
    have n3 := same_new hC (.tup [.int (t.ins : Nat), .int (t.outs : Nat), .ref X2])
    have s13 := (n1.trans' n2).trans' n3
    have ouC := ou4.same s13
    have tX : TZ [L, p] (upd (upd (upd H5 X1 (.lst (us.take 1))) X2 (.lst (us ++ us.take 1))) C (.tup [.int (t.ins : Nat), .int (t.outs : Nat), .ref X2])) (.ref X2) (.list (t.more.stgs.map toD)) := (ou4.same n1).lst (n2.trans' n3) hX2 (n3 _ _ upd_same) (by
      show TZs _ _ _ ((t.stgs ++ t.stgs.take 1).map toD)
      rw [List.map_append, List.map_take]
      exact ouC.tu.app (ouC.tu.take 1))
    refine ⟨_, _, _, rfl, rfl, ouC.hS, Nat.lt_of_le_of_lt ouC.ln (by decide), ?_⟩
    exact hD1 _ _ ⟨_, rfl, ouC.add fL nLp (ouC.tup (t' := t.more) upd_same tX) (Stn.more_ok tok el) (Stn.more_ne tok)⟩
  rintro τ H6 ⟨vs5, rfl, ou5⟩
  exact ⟨_, rfl, q H6 L vs5 (kp1.trans ou5.kp) ou5.po nLp ou5.hS ou5.az.drop (Nat.le_trans ou5.ln (by decide))⟩
end
end FY


set_option Elab.async false
set_option linter.all false
set_option maxRecDepth 100000
set_option maxHeartbeats 8000000
namespace FY
open PySem L2 FYR
/-! ## the def that hears what a call says -/
theorem bt_ValueErrorH : bootBuiltins "ValueError" = some (.type "ValueError") := by decide +kernel
structure HdC (K : PySem.W.Frag) (CE CF : Addr) : Prop where
  ec : ExcC K CE
  xf : XfC K CE
  k1 : PySem.W.kitOne K (.ref CE) (.ref CF) = some true
  k2 : PySem.W.kitOne K (.ref CE) (.type "ValueError") = some true
structure HdA5 (K : PySem.W.Frag) (mg : Str → Option Value) (CF CI CO CS CD CT : Addr) : Prop where
  gF : mg "FlowError" = some (.ref CF)
  gI : mg "InvalidIns" = some (.ref CI)
  hI : HdC K CI CF
  nI : PySem.W.findIn K (.ref CI) "value" = some none
  gO : mg "InvalidOuts" = some (.ref CO)
  hO : HdC K CO CF
  nO : PySem.W.findIn K (.ref CO) "value" = some none
  gS : mg "InvalidStandings" = some (.ref CS)
  hS : HdC K CS CF
  nS : PySem.W.findIn K (.ref CS) "position" = some none
  gD : mg "InvalidStanding" = some (.ref CD)
  hD : HdC K CD CF
  nD : PySem.W.findIn K (.ref CD) "value" = some none
  gT : mg "InvalidText" = some (.ref CT)
  hT : HdC K CT CF
  nT : PySem.W.findIn K (.ref CT) "value" = some none
  eII : PySem.W.exmOne K (.ref CI) (.ref CI) = some true
  eOI : PySem.W.exmOne K (.ref CO) (.ref CI) = some false
  eOO : PySem.W.exmOne K (.ref CO) (.ref CO) = some true
  eSI : PySem.W.exmOne K (.ref CS) (.ref CI) = some false
  eSO : PySem.W.exmOne K (.ref CS) (.ref CO) = some false
  eSS : PySem.W.exmOne K (.ref CS) (.ref CS) = some true
  eDI : PySem.W.exmOne K (.ref CD) (.ref CI) = some false
  eDO : PySem.W.exmOne K (.ref CD) (.ref CO) = some false
  eDS : PySem.W.exmOne K (.ref CD) (.ref CS) = some false
  eDD : PySem.W.exmOne K (.ref CD) (.ref CD) = some true
  eTI : PySem.W.exmOne K (.ref CT) (.ref CI) = some false
  eTO : PySem.W.exmOne K (.ref CT) (.ref CO) = some false
  eTS : PySem.W.exmOne K (.ref CT) (.ref CS) = some false
  eTD : PySem.W.exmOne K (.ref CT) (.ref CD) = some false
  eTT : PySem.W.exmOne K (.ref CT) (.ref CT) = some true
/-- the five kinds -/
inductive HdK (CI CO CS CD CT : Addr) : Value → Str → Str → Prop
  | kI : HdK CI CO CS CD CT (.ref CI) "ins" "value"
  | kO : HdK CI CO CS CD CT (.ref CO) "outs" "value"
  | kS : HdK CI CO CS CD CT (.ref CS) "standings" "position"
  | kD : HdK CI CO CS CD CT (.ref CD) "standing" "value"
  | kT : HdK CI CO CS CD CT (.ref CT) "text" "value"
/-- how a value is shown -/
def RepV (H : Hp) (v : V) (s : Str) : Prop := ∃ (p : Addr) (d : PyData), Tv p H v d ∧ d.showable = true ∧ d.depth ≤ 30 ∧ d.shown.length ≤ sizeLine ∧ s = d.shown
open LamX in
def TTheard (CI CO CS CD CT : Addr) : (XK → Hp → VK → Prop) → Hp → VK → Prop := fun tl H Q => ∀ L0, H L0 = none → ∀ Q' : VK,
  tl (fun cls d H' => ∃ (nm fld : Str) (v : V) (s : Str) (dd : Addr) (fs : List (Str × V)), HdK CI CO CS CD CT cls nm fld ∧ d = some dd ∧ H' dd = some (.xd fs) ∧ fs.lookup fld = some v ∧ RepV H' v s ∧ ∀ L, H' L = none → Q (.ref L) (upd H' L (.lst [.str nm, .str s, .bl true]))) (upd H L0 (.lst [.str "let"])) Q'
theorem takes_len {X : Cx} {W : WX} (t : Takes X W) : Takes X (fun c d σ H => σ.length = X.N.length → W c d σ H) := fun u s' ⟨a, B, sI, pins, σ, H, cls, d, e, I, nb, up, sky, na, os, ag, wh⟩ =>
  t u s' ⟨a, B, sI, pins, σ, H, cls, d, e, I, nb, up, sky, na, os, ag, wh I.len⟩
section
variable {CF CI CO CS CD CT : Addr} {aS a1 a2 : Addr}
abbrev s_law_heard : Stmt := top 34
abbrev N_law_heard : List Str := ["_law_call", "_law_heard_here", "e"]
theorem sc_law_heard : FnScope N_law_heard ["_law_call"] (defScope s_law_heard) := ⟨rfl, rfl, rfl, by decide +kernel, rfl, by decide +kernel, by decide +kernel⟩
theorem heard_gives {X : Cx} {g : Addr} {cdg : Value} {q : Str} {j : Nat} (T : Txt X.K X.mg aS a1 a2) (N : HdA5 X.K X.mg CF CI CO CS CD CT) (ks : ∃ o, X.K.lookup sysModules = some o) (hV : X.mg "ValueError" = none) (hgd : X.A.guards = some []) (hr : Room (j + 1) X.A) : LamX.GivesTo X N_law_heard "_law_heard" (defScope s_law_heard) g cdg (defBody s_law_heard) "_law_call" q (TTheard CI CO CS CD CT) := by
  intro f c' s H Q tl act hc h
  have hun : ∀ (e : Env) (m : Option Value), ((X.A.deeper e).mark m).units + 64 < cLine := fun e m => (hr.deeper e).units
  refine ⟨_, pss_cons (ps_set (i := 1) sc_law_heard.nd rfl (Or.inl rfl) (pe_lst (pa_cons pe_str pa_nil))) (pss_cons (ps_try_manyAs (i := 2) (n := "e")
      (tb := fun W D σ H => ∃ Ech : XK, (∀ cls d σ' H', Ech cls d H' → σ'.length = 3 → W cls d σ' H') ∧ σ[0]? = some (some (.ref f)) ∧ H c' = some (LamX.CodeO c' q) ∧ tl Ech H (fun v H1 => D.nx σ H1))
      rfl rfl sc_law_heard.nd rfl rfl LamX.takes0 (fun W pn xe tk _ => ?_)
      (
      .cons (c := .ref CI) ⟨rfl, by decide, .inl N.gI⟩ (fun a oe cls d pn hz hf => pss_one (ps_set (i := 1) sc_law_heard.nd rfl (Or.inl rfl) (pe_lst (pa_cons pe_str (pa_cons (pe_callB (kReprU X.K X.w rfl rfl ks hgd (hun _ _)) rfl T.b_repr bt_repr (pa_cons (pe_xf N.hI.xf N.nI hz hf (pv 2)) pa_nil)) (pa_cons (pe_and (pe_callB (FYE.kIsX X.K rfl N.hI.ec hz hf) rfl T.b_isinstance bt_isinstance (pa_cons (pv 2) (pa_cons (C8.pe_gc (v := .ref CF) rfl ⟨_, N.gF, rfl⟩) pa_nil))) (pe_one (pe_callB (FYE.kIsX X.K rfl N.hI.ec hz hf) rfl T.b_isinstance bt_isinstance (pa_cons (pv 2) (pa_cons (pTy rfl hV bt_ValueErrorH) pa_nil))))) pa_nil)))))) <|
      .cons (c := .ref CO) ⟨rfl, by decide, .inl N.gO⟩ (fun a oe cls d pn hz hf => pss_one (ps_set (i := 1) sc_law_heard.nd rfl (Or.inl rfl) (pe_lst (pa_cons pe_str (pa_cons (pe_callB (kReprU X.K X.w rfl rfl ks hgd (hun _ _)) rfl T.b_repr bt_repr (pa_cons (pe_xf N.hO.xf N.nO hz hf (pv 2)) pa_nil)) (pa_cons (pe_and (pe_callB (FYE.kIsX X.K rfl N.hO.ec hz hf) rfl T.b_isinstance bt_isinstance (pa_cons (pv 2) (pa_cons (C8.pe_gc (v := .ref CF) rfl ⟨_, N.gF, rfl⟩) pa_nil))) (pe_one (pe_callB (FYE.kIsX X.K rfl N.hO.ec hz hf) rfl T.b_isinstance bt_isinstance (pa_cons (pv 2) (pa_cons (pTy rfl hV bt_ValueErrorH) pa_nil))))) pa_nil)))))) <|
      .cons (c := .ref CS) ⟨rfl, by decide, .inl N.gS⟩ (fun a oe cls d pn hz hf => pss_one (ps_set (i := 1) sc_law_heard.nd rfl (Or.inl rfl) (pe_lst (pa_cons pe_str (pa_cons (pe_callB (kReprU X.K X.w rfl rfl ks hgd (hun _ _)) rfl T.b_repr bt_repr (pa_cons (pe_xf N.hS.xf N.nS hz hf (pv 2)) pa_nil)) (pa_cons (pe_and (pe_callB (FYE.kIsX X.K rfl N.hS.ec hz hf) rfl T.b_isinstance bt_isinstance (pa_cons (pv 2) (pa_cons (C8.pe_gc (v := .ref CF) rfl ⟨_, N.gF, rfl⟩) pa_nil))) (pe_one (pe_callB (FYE.kIsX X.K rfl N.hS.ec hz hf) rfl T.b_isinstance bt_isinstance (pa_cons (pv 2) (pa_cons (pTy rfl hV bt_ValueErrorH) pa_nil))))) pa_nil)))))) <|
      .cons (c := .ref CD) ⟨rfl, by decide, .inl N.gD⟩ (fun a oe cls d pn hz hf => pss_one (ps_set (i := 1) sc_law_heard.nd rfl (Or.inl rfl) (pe_lst (pa_cons pe_str (pa_cons (pe_callB (kReprU X.K X.w rfl rfl ks hgd (hun _ _)) rfl T.b_repr bt_repr (pa_cons (pe_xf N.hD.xf N.nD hz hf (pv 2)) pa_nil)) (pa_cons (pe_and (pe_callB (FYE.kIsX X.K rfl N.hD.ec hz hf) rfl T.b_isinstance bt_isinstance (pa_cons (pv 2) (pa_cons (C8.pe_gc (v := .ref CF) rfl ⟨_, N.gF, rfl⟩) pa_nil))) (pe_one (pe_callB (FYE.kIsX X.K rfl N.hD.ec hz hf) rfl T.b_isinstance bt_isinstance (pa_cons (pv 2) (pa_cons (pTy rfl hV bt_ValueErrorH) pa_nil))))) pa_nil)))))) <|
      .cons (c := .ref CT) ⟨rfl, by decide, .inl N.gT⟩ (fun a oe cls d pn hz hf => pss_one (ps_set (i := 1) sc_law_heard.nd rfl (Or.inl rfl) (pe_lst (pa_cons pe_str (pa_cons (pe_callB (kReprU X.K X.w rfl rfl ks hgd (hun _ _)) rfl T.b_repr bt_repr (pa_cons (pe_xf N.hT.xf N.nT hz hf (pv 2)) pa_nil)) (pa_cons (pe_and (pe_callB (FYE.kIsX X.K rfl N.hT.ec hz hf) rfl T.b_isinstance bt_isinstance (pa_cons (pv 2) (pa_cons (C8.pe_gc (v := .ref CF) rfl ⟨_, N.gF, rfl⟩) pa_nil))) (pe_one (pe_callB (FYE.kIsX X.K rfl N.hT.ec hz hf) rfl T.b_isinstance bt_isinstance (pa_cons (pv 2) (pa_cons (pTy rfl hV bt_ValueErrorH) pa_nil))))) pa_nil)))))) <|
      .nil)) (pss_one (ps_ret (pv 1)))), ?_⟩
  · refine ⟨fun pins s' σ H' D I h' => ?_⟩
    obtain ⟨Ech, hW, h1, h2, h3⟩ := h'
    exact (pss_one (ps_expr (act _ pn xe Ech _ _ (takes_len tk) (fun cls d σ' H' e z => hW cls d σ' H' e z)))).run pins s' σ H' D I ⟨h1, h2, h3⟩
  · refine ⟨sz rfl, fun L0 hL0 => ⟨_, ?_, rfl, (upd_ne (ne_of_none hc hL0)).trans hc, h L0 hL0 _⟩⟩
    rintro cls d σ' H' ⟨nm, fld, v, s, dd, fs, hk, rfl, hdd, hlk, ⟨p, dv, tvv, b1, b2, b3, rfl⟩, hq⟩ hl
    match σ', hl with
    | [x0, x1, x2], _ =>
      cases hk with
      | kI =>
        refine ⟨true, N.eII, fun _ a ha => ?_, fun z => (nomatch z)⟩
        refine ⟨_, rfl, rfl, rfl, dd, _, _, rfl, hdd, hlk, .inl ⟨p, _, dv, rfl, tvv, b1, b2, b3, ?_⟩⟩
        refine ⟨_, rfl, _, _, true, dd, _, rfl, rfl, rfl, (fun u h => by cases h; rfl), N.hI.k1, hdd, ?_⟩
        refine ⟨_, rfl, iteT ?_⟩
        refine ⟨_, rfl, _, _, true, dd, _, rfl, rfl, rfl, (fun u h => by cases h; rfl), N.hI.k2, hdd, ?_⟩
        refine ⟨sz rfl, fun L hL => ?_⟩
        exact ⟨_, rfl, hq L hL⟩
      | kO =>
        refine ⟨false, N.eOI, (fun z => nomatch z), fun _ => ⟨true, N.eOO, fun _ a ha => ?_, fun z => (nomatch z)⟩⟩
        refine ⟨_, rfl, rfl, rfl, dd, _, _, rfl, hdd, hlk, .inl ⟨p, _, dv, rfl, tvv, b1, b2, b3, ?_⟩⟩
        refine ⟨_, rfl, _, _, true, dd, _, rfl, rfl, rfl, (fun u h => by cases h; rfl), N.hO.k1, hdd, ?_⟩
        refine ⟨_, rfl, iteT ?_⟩
        refine ⟨_, rfl, _, _, true, dd, _, rfl, rfl, rfl, (fun u h => by cases h; rfl), N.hO.k2, hdd, ?_⟩
        refine ⟨sz rfl, fun L hL => ?_⟩
        exact ⟨_, rfl, hq L hL⟩
      | kS =>
        refine ⟨false, N.eSI, (fun z => nomatch z), fun _ => ⟨false, N.eSO, (fun z => nomatch z), fun _ => ⟨true, N.eSS, fun _ a ha => ?_, fun z => (nomatch z)⟩⟩⟩
        refine ⟨_, rfl, rfl, rfl, dd, _, _, rfl, hdd, hlk, .inl ⟨p, _, dv, rfl, tvv, b1, b2, b3, ?_⟩⟩
        refine ⟨_, rfl, _, _, true, dd, _, rfl, rfl, rfl, (fun u h => by cases h; rfl), N.hS.k1, hdd, ?_⟩
        refine ⟨_, rfl, iteT ?_⟩
        refine ⟨_, rfl, _, _, true, dd, _, rfl, rfl, rfl, (fun u h => by cases h; rfl), N.hS.k2, hdd, ?_⟩
        refine ⟨sz rfl, fun L hL => ?_⟩
        exact ⟨_, rfl, hq L hL⟩
      | kD =>
        refine ⟨false, N.eDI, (fun z => nomatch z), fun _ => ⟨false, N.eDO, (fun z => nomatch z), fun _ => ⟨false, N.eDS, (fun z => nomatch z), fun _ => ⟨true, N.eDD, fun _ a ha => ?_, fun z => (nomatch z)⟩⟩⟩⟩
        refine ⟨_, rfl, rfl, rfl, dd, _, _, rfl, hdd, hlk, .inl ⟨p, _, dv, rfl, tvv, b1, b2, b3, ?_⟩⟩
        refine ⟨_, rfl, _, _, true, dd, _, rfl, rfl, rfl, (fun u h => by cases h; rfl), N.hD.k1, hdd, ?_⟩
        refine ⟨_, rfl, iteT ?_⟩
        refine ⟨_, rfl, _, _, true, dd, _, rfl, rfl, rfl, (fun u h => by cases h; rfl), N.hD.k2, hdd, ?_⟩
        refine ⟨sz rfl, fun L hL => ?_⟩
        exact ⟨_, rfl, hq L hL⟩
      | kT =>
        refine ⟨false, N.eTI, (fun z => nomatch z), fun _ => ⟨false, N.eTO, (fun z => nomatch z), fun _ => ⟨false, N.eTS, (fun z => nomatch z), fun _ => ⟨false, N.eTD, (fun z => nomatch z), fun _ => ⟨true, N.eTT, fun _ a ha => ?_, fun z => (nomatch z)⟩⟩⟩⟩⟩
        refine ⟨_, rfl, rfl, rfl, dd, _, _, rfl, hdd, hlk, .inl ⟨p, _, dv, rfl, tvv, b1, b2, b3, ?_⟩⟩
        refine ⟨_, rfl, _, _, true, dd, _, rfl, rfl, rfl, (fun u h => by cases h; rfl), N.hT.k1, hdd, ?_⟩
        refine ⟨_, rfl, iteT ?_⟩
        refine ⟨_, rfl, _, _, true, dd, _, rfl, rfl, rfl, (fun u h => by cases h; rfl), N.hT.k2, hdd, ?_⟩
        refine ⟨sz rfl, fun L hL => ?_⟩
        exact ⟨_, rfl, hq L hL⟩
end
section
variable {X : Cx} {k : Nat} {g c P : Addr} {fdg : FuncData} {CF CI CO CS CD CT : Addr} {aS a1 a2 : Addr} {params : Arguments} {body : Expr} {scope : Scope} {t : XK → TE} {p lpos pos : Pos}
theorem lam_heard (F : Fun X.K "_law_heard" "_law_heard" s_law_heard g fdg) (hm : X.mg "_law_heard" = some (.ref g)) (hb : Binds X.K fdg ["_law_call"] []) (T : Txt X.K X.mg aS a1 a2) (N : HdA5 X.K X.mg CF CI CO CS CD CT) (ks : ∃ o, X.K.lookup sysModules = some o) (hV : X.mg "ValueError" = none) (TB : LamX.TabB X.base X.mg c P) (hcode : X.env.code = .ref c) {TS : List (Addr × Str)} (hmT : (P, X.env.qual ++ "<lambda>") ∈ TS) (hu : ∀ p ∈ TS, p.1 = P → p.2 = X.env.qual ++ "<lambda>") (hgd : X.A.guards = some []) (hr : Room (k + 2) X.A) (hg : Gl X "_law_heard") {sc : Scope} (hsc : X.env.scope = sc)
    (hbody : ∀ (A : Around) (outer : List Env) (s : Shared) (H : Hp) (E : XK) (f c' : Addr), Room k (A.deeper (LamX.lamEnv X scope s.heap.objs.size f c')) → PE (LamX.lamCx X A outer s H E scope f c') body (t E))
    (L : LamX.lamSB sc scope = true := by decide +kernel) (hdef : defaultsOf params X.env = ([], []) := by rfl)
    (hbind : ∀ (q : Str) (cl : List (Str × Addr)) (pm cv ctv : Value), bindArgs (PySem.W.kla_fn "<lambda>" q params body scope cl pm cv ctv) ⟨[], []⟩ = pure [] := by intro _ _ _ _ _; rfl) :
    PE X (.Call (.Name "_law_heard" p) [.Lambda params body scope lpos] [] pos) (LamX.tLam TS (TTheard CI CO CS CD CT) t) := by
  obtain ⟨oc, od, kV, doc, pm, an, cdv, ct, osl, rfl, lk, hcd⟩ := F.ex
  exact LamX.pe_lamcall hg hm F.kp lk hcd hb sc_law_heard rfl (Or.inl rfl) (heard_gives T N ks hV hgd (hr.mono (by omega : k + 1 ≤ k + 2))) TB hcode hmT hu hr (by rw [hsc]; exact LamX.lamS_by L) hdef hbind hbody
end
end FY


set_option Elab.async false
set_option linter.all false
set_option maxRecDepth 100000
set_option maxHeartbeats 8000000
namespace FYR
open PySem PySem.Spec PyProof.Rows L2
section
variable {P : Program} {w : World} {K : PySem.W.Frag} {mg : Str → Option Value} {base : Heap}
theorem fnGC_of {x qual : Str} {st : Stmt} {f : Addr} {fd : FuncData} {N ps : List Str} {k : Nat} {sp : Sp} {cv : Value} (F : Fun K x qual st f fd) (hcv : fd.code = cv) (S : FnScope N ps (defScope st)) (len : ∀ vs H Q E, sp vs H Q E → vs.length = ps.length)
    (hbody : ∀ (A : Around) (outer : List Env) (s : Shared) (H : Hp) (vs : List V) (Q : VK) (E : XK), A.guards = some [] → Room k (A.deeper (envOfC qual (defScope st) s.heap.objs.size f cv)) → sp vs H Q E →
      ∃ t, PSs (cxOf CX0 P w K mg base N qual (defScope st) f cv A outer s H E).nox (defBody st) t ∧ t { nx := fun _ H' => Q .non H', rt := Q } (start N vs) H) : FnG P w K mg base (k + 1) f fd ps sp := by
  obtain ⟨oc, od, kV, doc, pm, an, cdv, ct, osl, rfl, lk, hcd⟩ := F.ex
  obtain rfl : cdv = cv := hcv
  refine ⟨len, fun A outer s H args us vs Q E hgd hr e0 hb r hsp => ?_⟩
  have hl := len _ _ _ _ hsp
  have kin : K.In s.heap := e0.mod.kin.keeps fun b o e => (e0.bs b o e).1
  have nolim : s.heap.NoLimit := e0.mod.nolimit.keeps fun b o e => (e0.bs b o e).1
  have kinds : ∀ y ∈ ps.zip us, (defScope st).names.lookup y.1 = some .local ∨ ((defScope st).names.lookup y.1 = some .cell ∧ ((cellsFrom (s.heap.objs.size + 1) (defScope st).names []).lookup y.1).isSome = true) := by
    rintro ⟨n, v⟩ hy
    exact (S.par n (List.of_mem_zip hy).1).imp id fun q => ⟨q, PySem.W.cellsFrom_some _ _ _ (.inl q)⟩
  refine codeAny_call_function hr.depth (kin _ _ lk) rfl S.co S.gen rfl (PySem.W.codeRec_of kin hcd) (hb _ _ _ _ ?_)
  refine wpAny_newFunctionEnv_cells S.kind kinds fun env he s1 x => ?_
  subst he
  refine ⟨nolim.keeps x.toInCall.keep, codeAny_func ?_⟩
  obtain ⟨t, ht, hq⟩ := hbody A outer s H vs Q E hgd (hr.deeper _) hsp
  have I : Inv (cxOf CX0 P w K mg base N qual (defScope st) f cdv A outer s H E) [] (start N vs) H s1 := inv_start S hr.hd e0 hl r x
  refine wpAny_mono (ht.nox.run [] s1 (start N vs) H _ I hq) (fun fl s' hs => ?_) fun e s' hs => hs
  cases fl with
  | ret u =>
    obtain ⟨v, σ', H', J, rv, q⟩ := hs
    exact ⟨v, H', J.os, J.bare, J.base, J.hok, rv, q⟩
  | next =>
    obtain ⟨σ', H', J, q⟩ := hs
    exact ⟨.non, H', J.os, J.bare, J.base, J.hok, rfl, q⟩
  | brk =>
    obtain ⟨_, _, _, q⟩ := hs
    exact q.elim
  | cont =>
    obtain ⟨_, _, _, q⟩ := hs
    exact q.elim
end
end FYR
namespace FY
open PySem L2 FYR
/-! ## what is refused: tables of the lambdas, what is heard -/
def qr : Str := (PyProof.Rows.envOfC "_law_refused_right" (defScope (top 38)) 0 0 .none).qual ++ "<lambda>"
def qw : Str := (PyProof.Rows.envOfC "_law_rows_right" (defScope (top 39)) 0 0 .none).qual ++ "<lambda>"
abbrev TTb (Pt Pb : Addr) : List (Addr × Str) := [(Pt, qr), (Pb, qw)]
theorem huN {Pt Pb : Addr} (n : Pt ≠ Pb) : ∀ p ∈ TTb Pt Pb, p.1 = Pt → p.2 = qr := fun p hp e => by
  rcases List.mem_cons.mp hp with rfl | hp
  · rfl
  · rw [List.mem_singleton.mp hp] at e
    exact absurd e.symm n
theorem huB {Pt Pb : Addr} (n : Pt ≠ Pb) : ∀ p ∈ TTb Pt Pb, p.1 = Pb → p.2 = qw := fun p hp e => by
  rcases List.mem_cons.mp hp with rfl | hp
  · exact absurd e n
  · rw [List.mem_singleton.mp hp]
def NB (H : Hp) (N : Addr) : Prop := ∀ b o, H b = some o → (∀ ps, o ≠ .tbl ps) → b ≠ N
theorem nb_of {H H' : Hp} {N : Addr} (e : LamX.ExtN H H') (h : H' N = none) : NB H N := fun b o e1 t => ne_of_none (e b o e1 t) h
theorem ext_at {H H' : Hp} {N : Addr} {o : HO} (e : LamX.ExtN H H') (n : NB H N) : LamX.ExtN H (upd H' N o) := fun b u e1 t => by
  rw [upd_ne (n b u e1 t)]
  exact e b u e1 t
theorem dk_ext {p : Addr} {H H' : Hp} (e : LamX.ExtN H H') : Dk p H H' := fun b o _ dt h => e b o h fun ps z => by rw [z] at dt; exact dt
theorem Tv.ext {p : Addr} {H H' : Hp} (e : LamX.ExtN H H') {v : V} {d : PyData} (h : Tv p H v d) : Tv p H' v d := Tv.dk (dk_ext e) d h
theorem TvAll.ext {p : Addr} {H H' : Hp} (e : LamX.ExtN H H') {v : List V} {d : List PyData} (h : TvAll p H v d) : TvAll p H' v d := TvAll.dk (dk_ext e) d h
theorem Tv.kpN {p : Addr} {H H' : Hp} (e : KpN p H H') {v : V} {d : PyData} (h : Tv p H v d) : Tv p H' v d := Tv.dk (fun b o n dt h => e b o n (fun ps z => by rw [z] at dt; exact dt) h) d h
/-- the error, as it is heard -/
def hdE (CI CO CS CD CT : Addr) (Q : VK) : XK := fun cls d H' => ∃ (nm fld : Str) (v : V) (s : Str) (dd : Addr) (fs : List (Str × V)), HdK CI CO CS CD CT cls nm fld ∧ d = some dd ∧ H' dd = some (.xd fs) ∧ fs.lookup fld = some v ∧ RepV H' v s ∧ ∀ L, H' L = none → Q (.ref L) (upd H' L (.lst [.str nm, .str s, .bl true]))
theorem RepV.same {H H' : Hp} {v : V} {s : Str} (h : RepV H v s) (k : Same H H') : RepV H' v s := by
  obtain ⟨p, d, a, b, c, e, f⟩ := h
  exact ⟨p, d, a.same k, b, c, e, f⟩
theorem RepV.ext {H H' : Hp} {v : V} {s : Str} (h : RepV H v s) (k : LamX.ExtN H H') : RepV H' v s := by
  obtain ⟨p, d, a, b, c, e, f⟩ := h
  exact ⟨p, d, a.ext k, b, c, e, f⟩
theorem ivH {CI CO CS CD CT CE : Addr} {Q : VK} {H : Hp} {v : V} {nm s : Str} (hk : HdK CI CO CS CD CT (.ref CE) nm "value") (rp : RepV H v s) (q : ∀ H' L, Same H H' → H' L = none → Q (.ref L) (upd H' L (.lst [.str nm, .str s, .bl true]))) : ivE CE (hdE CI CO CS CD CT Q) H v :=
  fun H' d sm hd => ⟨nm, "value", v, s, d, _, hk, rfl, hd, rfl, rp.same sm, fun L hL => q H' L sm hL⟩
theorem isH {CI CO CS CD CT CE : Addr} {Q : VK} {H : Hp} {v : V} {nm s : Str} (hk : HdK CI CO CS CD CT (.ref CE) nm "position") (rp : RepV H v s) (q : ∀ H' L, Same H H' → H' L = none → Q (.ref L) (upd H' L (.lst [.str nm, .str s, .bl true]))) : isE CE (hdE CI CO CS CD CT Q) H v :=
  fun H' d sm hd => ⟨nm, "position", v, s, d, _, hk, rfl, hd, rfl, rp.same sm, fun L hL => q H' L sm hL⟩
/-- told is what one thing was called for -/
def ToldH (H : Hp) (v : V) (nm s : Str) : Prop := ∃ L, v = .ref L ∧ H L = some (.lst [.str nm, .str s, .bl true])
theorem ToldH.ext {H H' : Hp} {v : V} {nm s : Str} (h : ToldH H v nm s) (k : LamX.ExtN H H') : ToldH H' v nm s := by
  obtain ⟨L, a, b⟩ := h
  exact ⟨L, a, ExtN_lst k b⟩
def toldD (nm s : Str) : PyData := .list [.str nm, .str s, .bool true]
theorem ToldH.dp {K : PySem.W.Frag} {H : Hp} {v : V} {nm s : Str} (h : ToldH H v nm s) : Dp K H v (toldD nm s) := by
  obtain ⟨L, rfl, b⟩ := h
  exact .lst (SqL.of b) (.cons (.str _) (.cons (.str _) (.cons (.bl _) .nil)))
theorem heardS {CI CO CS CD CT : Addr} {tl : XK → Hp → VK → Prop} {H : Hp} {Q : VK} {nm s : Str}
    (h : ∀ (G : Hp) (Q1 Q' : VK), Same H G → (∀ H' L, Same G H' → H' L = none → Q1 (.ref L) (upd H' L (.lst [.str nm, .str s, .bl true]))) → tl (hdE CI CO CS CD CT Q1) G Q')
    (q : ∀ H' L, Same H H' → H L = none → H' L = some (.lst [.str nm, .str s, .bl true]) → Q (.ref L) H') : TTheard CI CO CS CD CT tl H Q := fun L0 hL0 Q' =>
  h _ Q Q' (same_new hL0 _) fun H' L sm nL => q _ L (((same_new hL0 _).trans' sm).trans' (same_new nL _)) (none_ofS ((same_new hL0 _).trans' sm) nL) upd_same
/-- how a told thing is shown: not too long -/
def rpB (d : PyData) : Bool := d.showable && decide (d.depth ≤ 30) && decide (d.shown.length ≤ 1000) && PyData.strOk d.shown
theorem rpB_of {H : Hp} {p : Addr} {v : V} {d : PyData} (h : rpB d = true) (t : Tv p H v d) : RepV H v d.shown := by
  unfold rpB at h
  simp only [Bool.and_eq_true, decide_eq_true_eq] at h
  exact ⟨p, d, t, h.1.1.1, h.1.1.2, Nat.le_trans h.1.2 (by decide), rfl⟩
theorem rpB_ok {d : PyData} (h : rpB d = true) : PyData.strOk d.shown = true := by
  unfold rpB at h
  simp only [Bool.and_eq_true, decide_eq_true_eq] at h
  exact h.2
theorem rpB_q {K : PySem.W.Frag} {w : World} {H : Hp} {Q : VK} {p : Addr} {v : V} {d : PyData} (h : rpB d = true) (t : Tv p H v d) (q : Q (.str d.shown) H) : rReprT K w [v] H Q := by
  unfold rpB at h
  simp only [Bool.and_eq_true, decide_eq_true_eq] at h
  exact .inl ⟨p, v, d, rfl, t, h.1.1.1, h.1.1.2, Nat.le_trans h.1.2 (by decide), q⟩
theorem told_lay {nm s : Str} (h1 : PyData.strOk nm = true) (h2 : PyData.strOk s = true) : (toldD nm s).canLay0 = true := by
  unfold toldD
  simp [PyData.canLay0, PyData.canLayAll0, h1, h2]
theorem told_dep (nm s : Str) : (toldD nm s).depth = 1 := rfl
theorem told_shp {nm s : Str} (h1 : PyData.strOk nm = true) (h2 : PyData.strOk s = true) : SeqAt.shaped (toldD nm s) = true := by
  unfold SeqAt.shaped
  rw [told_lay h1 h2, told_dep]
  rfl
theorem tolds_lay : ∀ {ds : List PyData}, (∀ d ∈ ds, ∃ nm s, d = toldD nm s ∧ PyData.strOk nm = true ∧ PyData.strOk s = true) → PyData.canLayAll0 ds = true ∧ PyData.depthAll ds ≤ 1
  | [], _ => ⟨rfl, Nat.zero_le _⟩
  | d :: ds, h => by
    obtain ⟨nm, s, rfl, h1, h2⟩ := h d (List.mem_cons_self ..)
    obtain ⟨e1, e2⟩ := tolds_lay fun x hx => h x (List.mem_cons_of_mem _ hx)
    refine ⟨by simp [PyData.canLayAll0, told_lay h1 h2, e1], ?_⟩
    simp only [PyData.depthAll]
    exact Nat.max_le.mpr ⟨by rw [told_dep]; exact Nat.le_refl _, e2⟩
theorem tolds_shp {ds : List PyData} (h : ∀ d ∈ ds, ∃ nm s, d = toldD nm s ∧ PyData.strOk nm = true ∧ PyData.strOk s = true) : SeqAt.shaped (.list ds) = true := by
  obtain ⟨e1, e2⟩ := tolds_lay h
  unfold SeqAt.shaped
  have e3 : (PyData.list ds).canLay0 = true := by simp [PyData.canLay0, e1]
  have e4 : (PyData.list ds).depth ≤ 64 := by
    simp only [PyData.depth]
    omega
  rw [e3, Bool.true_and]
  exact decide_eq_true e4
theorem eqv_told (nm s : Str) : PyData.eqv (toldD nm s) (toldD nm s) = true := by
  unfold toldD
  simp [PyData.eqv, PyData.eqvAll]
theorem eqv_tolds : ∀ {ds : List PyData}, (∀ d ∈ ds, ∃ nm s, d = toldD nm s) → PyData.eqvAll ds ds = true
  | [], _ => rfl
  | d :: ds, h => by
    obtain ⟨nm, s, rfl⟩ := h d (List.mem_cons_self ..)
    simp [PyData.eqvAll, eqv_told, eqv_tolds fun x hx => h x (List.mem_cons_of_mem _ hx)]
end FY


set_option Elab.async false
set_option linter.all false
set_option maxRecDepth 100000
set_option maxHeartbeats 8000000
namespace FY
open PySem L2 FYR
/-! ## what is refused -/
theorem insD_ok {n : Nat} (h1 : 1 ≤ n) (h2 : n ≤ 2) : insD (.int (n : Nat)) = true := by
  show (decide (1 ≤ (n : Int)) && decide ((n : Int) ≤ 2)) = true
  rw [decide_eq_true (by omega), decide_eq_true (by omega)]
  rfl
theorem oddI_rp {d : PyData} (h : (!insD d && rpB d) = true) : insD d = false ∧ rpB d = true := by
  rw [Bool.and_eq_true] at h
  exact ⟨by simpa using h.1, h.2⟩
/-- told lists, in a list -/
def TolA (H : Hp) : List V → List PyData → Prop
  | [], [] => True
  | v :: vs, d :: ds => (∃ nm s, d = toldD nm s ∧ PyData.strOk nm = true ∧ PyData.strOk s = true ∧ ToldH H v nm s) ∧ TolA H vs ds
  | _, _ => False
theorem TolA.dp {K : PySem.W.Frag} {H : Hp} : ∀ {vs : List V} {ds : List PyData}, TolA H vs ds → DpAll K H vs ds
  | [], [], _ => .nil
  | _ :: _, _ :: _, ⟨⟨nm, s, e, _, _, h⟩, r⟩ => by
    subst e
    exact .cons h.dp r.dp
theorem TolA.shp {H : Hp} : ∀ {vs : List V} {ds : List PyData}, TolA H vs ds → ∀ d ∈ ds, ∃ nm s, d = toldD nm s ∧ PyData.strOk nm = true ∧ PyData.strOk s = true
  | _ :: _, _ :: _, ⟨⟨nm, s, e, h1, h2, _⟩, r⟩, d, hd => by
    rcases List.mem_cons.mp hd with rfl | hd
    · exact ⟨nm, s, e, h1, h2⟩
    · exact r.shp d hd
  | [], [], _, d, hd => nomatch hd
theorem TolA.ext {H H' : Hp} (k : LamX.ExtN H H') : ∀ {vs : List V} {ds : List PyData}, TolA H vs ds → TolA H' vs ds
  | [], [], _ => trivial
  | _ :: _, _ :: _, ⟨⟨nm, s, e, h1, h2, h⟩, r⟩ => ⟨⟨nm, s, e, h1, h2, h.ext k⟩, r.ext k⟩
theorem TolA.off {H : Hp} {N : Addr} {o : HO} : ∀ {vs : List V} {ds : List PyData}, V.ref N ∉ vs → TolA H vs ds → TolA (upd H N o) vs ds
  | [], [], _, _ => trivial
  | _ :: _, _ :: _, n, ⟨⟨nm, s, e, h1, h2, ⟨L, e2, h⟩⟩, r⟩ => ⟨⟨nm, s, e, h1, h2, ⟨L, e2, (upd_ne (fun z => n (by rw [e2, z]; exact List.mem_cons_self ..))).trans h⟩⟩, r.off fun m => n (List.mem_cons_of_mem _ m)⟩
theorem TolA.snoc {H : Hp} {v : V} {nm s : Str} (h1 : PyData.strOk nm = true) (h2 : PyData.strOk s = true) (h : ToldH H v nm s) : ∀ {vs : List V} {ds : List PyData}, TolA H vs ds → TolA H (vs ++ [v]) (ds ++ [toldD nm s])
  | [], [], _ => ⟨⟨nm, s, rfl, h1, h2, h⟩, trivial⟩
  | _ :: _, _ :: _, ⟨a, r⟩ => ⟨a, TolA.snoc h1 h2 h r⟩
theorem TolA.one {H : Hp} {v : V} {nm s : Str} (h1 : PyData.strOk nm = true) (h2 : PyData.strOk s = true) (h : ToldH H v nm s) : TolA H [v] [toldD nm s] := ⟨⟨nm, s, rfl, h1, h2, h⟩, trivial⟩
theorem told_ne {K : PySem.W.Frag} {H : Hp} {Q : VK} {N M : Addr} {vs ws : List V} {ds : List PyData} (hN : H N = some (.lst vs)) (hM : H M = some (.lst ws)) (t1 : TolA H vs ds) (t2 : TolA H ws ds) (q : Q (.bl false) H) : rNeD K (.ref N) (.ref M) H Q := by
  refine ⟨.list ds, .list ds, .lst (SqL.of hN) t1.dp, .lst (SqL.of hM) t2.dp, tolds_shp t1.shp, tolds_shp t1.shp, ?_⟩
  have e : PyData.eqv (.list ds) (.list ds) = true := by
    rw [PyData.eqv]
    exact eqv_tolds fun d hd => let ⟨nm, s, e, _⟩ := t1.shp d hd; ⟨nm, s, e⟩
  rw [e]
  exact q
theorem rep_one (v : V) : ∀ k : Nat, (List.replicate k [v]).flatten = List.replicate k v
  | 0 => rfl
  | k + 1 => by rw [List.replicate_succ, List.flatten_cons, rep_one v k, List.replicate_succ]; rfl
theorem tv_rep {p : Addr} {H : Hp} {v : V} {d : PyData} (h : Tv p H v d) : ∀ k : Nat, TvAll p H (List.replicate k v) (List.replicate k d)
  | 0 => .nil
  | k + 1 => .cons h (tv_rep h k)
/-- told standings of which the k-th is the first wrong one -/
structure Wr (t : Stn) (ds : List PyData) (k : Nat) : Prop where
  ln : ds.length = t.stgs.length
  at_ : ∃ d, ds[k]? = some d ∧ stnB t.ins t.outs t.stgs.length d = false
  bef : ∀ j e, j < k → ds[j]? = some e → stnB t.ins t.outs t.stgs.length e = true
  sh : ∀ e ∈ ds, shStn e ∧ lenO e
theorem base_ok {t : Stn} (h : t.ok) {j : Nat} {e : PyData} (he : (t.stgs.map toD)[j]? = some e) : stnB t.ins t.outs t.stgs.length e = true := by
  obtain ⟨S, hS, rfl⟩ := List.getElem?_map_some he
  exact stnB_ok (sgD_to S) (h.sg S (List.mem_of_getElem? hS))
theorem wrA {t : Stn} (h : t.ok) {d : PyData} (o : oddS t.ins t.outs t.stgs.length d) {sp : Nat} (l : sp < t.stgs.length) : Wr t ((t.stgs.map toD).set sp d) sp := by
  refine ⟨by rw [List.length_set, List.length_map], ⟨d, List.getElem?_set_self (by rw [List.length_map]; exact l), o.1⟩, fun j e hj he => ?_, fun e he => ?_⟩
  · rw [List.getElem?_set_ne (by omega)] at he
    exact base_ok h he
  · rcases List.mem_or_eq_of_mem_set he with he | rfl
    · exact sgd_sh h.sg (sgD_tos _) e he
    · exact o.2
theorem wrB {t : Stn} (h : t.ok) {d d1 : PyData} (o : oddS t.ins t.outs t.stgs.length d) (o1 : oddS t.ins t.outs t.stgs.length d1) {sp la : Nat} (l : sp < t.stgs.length) (l1 : la < t.stgs.length) {k : Nat} (hk : k = if la < sp then la else sp) : Wr t (((t.stgs.map toD).set la d1).set sp d) k := by
  refine ⟨by rw [List.length_set, List.length_set, List.length_map], ?_, fun j e hj he => ?_, fun e he => ?_⟩
  · by_cases z : la < sp
    · rw [if_pos z] at hk
      subst hk
      exact ⟨d1, by rw [List.getElem?_set_ne (by omega)]; exact List.getElem?_set_self (by rw [List.length_map]; exact l1), o1.1⟩
    · rw [if_neg z] at hk
      subst hk
      exact ⟨d, List.getElem?_set_self (by rw [List.length_set, List.length_map]; exact l), o.1⟩
  · by_cases z : la < sp
    · rw [if_pos z] at hk
      subst hk
      rw [List.getElem?_set_ne (by omega), List.getElem?_set_ne (by omega)] at he
      exact base_ok h he
    · rw [if_neg z] at hk
      subst hk
      rw [List.getElem?_set_ne (by omega), List.getElem?_set_ne (by omega)] at he
      exact base_ok h he
  · rcases List.mem_or_eq_of_mem_set he with he | rfl
    · rcases List.mem_or_eq_of_mem_set he with he | rfl
      · exact sgd_sh h.sg (sgD_tos _) e he
      · exact o1.2
    · exact o.2
theorem tvs_set {Z : List Addr} {H : Hp} {vs : List V} {ds : List PyData} {v : V} {d : PyData} (h : TZs Z H vs ds) (hv : TZ Z H v d) (i : Nat) : TZs Z H (vs.set i v) (ds.set i d) := fun z hz => by
  refine TvAll.of (by rw [List.length_set, List.length_set]; exact (h z hz).len) fun j x e h1 h2 => ?_
  by_cases eq : i = j
  · subst eq
    have l1 := (List.getElem?_eq_some_iff.mp h1).1
    have l2 := (List.getElem?_eq_some_iff.mp h2).1
    rw [List.length_set] at l1 l2
    rw [List.getElem?_set_self l1] at h1
    rw [List.getElem?_set_self l2] at h2
    rw [← Option.some.inj h1, ← Option.some.inj h2]
    exact hv z hz
  · rw [List.getElem?_set_ne eq] at h1 h2
    obtain ⟨d', e1, e2⟩ := (h z hz).at h1
    rw [h2] at e1
    rw [Option.some.inj e1]
    exact e2
theorem pos_rp : ∀ k : Fin 4, rpB (.int ((k.val : Nat) : Int)) = true := by decide +kernel
theorem pos_sh (i : Int) : (PyData.int i).shown = ((toString i : String) : Str) := PyData.shown_int i
theorem AllZ.kpN {Sz : PyData → Prop} {p : Addr} {G G' : Hp} {vs : List V} (h : AllZ Sz [p] G vs) (k : KpN p G G') : AllZ Sz [p] G' vs := fun v hv => let ⟨d, t, s⟩ := h v hv; ⟨d, fun z hz => by
  rw [List.mem_singleton.mp hz]
  exact (t p (List.mem_singleton.mpr rfl)).kpN k, s⟩
def Bd (t : Stn) (sp la : Nat) (ds : List PyData) (k : Nat) : Prop := (k = sp ∧ ds = t.stgs.map toD) ∨ ∃ d1, oddS t.ins t.outs t.stgs.length d1 ∧ ds = (t.stgs.map toD).set la d1 ∧ k = if la < sp then la else sp
theorem Bd.lt {t : Stn} {sp la : Nat} {ds : List PyData} {k : Nat} (h : Bd t sp la ds k) (l1 : sp < t.stgs.length) (l2 : la < t.stgs.length) : k < t.stgs.length := by
  rcases h with ⟨rfl, _⟩ | ⟨_, _, _, rfl⟩
  · exact l1
  · split <;> assumption
theorem Bd.wr {t : Stn} {sp la : Nat} {ds : List PyData} {k : Nat} (h : Bd t sp la ds k) (tok : t.ok) (l1 : sp < t.stgs.length) (l2 : la < t.stgs.length) {d : PyData} (o : oddS t.ins t.outs t.stgs.length d) : Wr t (ds.set sp d) k := by
  rcases h with ⟨rfl, rfl⟩ | ⟨d1, o1, rfl, hk⟩
  · exact wrA tok o l1
  · exact wrB tok o o1 l1 l2 hk
theorem ixN_natS {n j : Nat} (hj : j < n) : ixN n (j : Int) = some j := by
  unfold ixN
  rw [if_pos (by omega), if_pos (by omega)]
  simp
def oddI (d : PyData) : Bool := !insD d && rpB d
def spRefused (Pt Pb : Addr) : Sp := fun vs H Q _ => ∃ (p : Addr) (v : V) (t : Stn), vs = [.ref p, v] ∧ Pot p H ∧ Tv p H v (stD t) ∧ t.ok ∧ LamX.Tabs (TTb Pt Pb) H ∧ ∀ H', KpN p H H' → Pot p H' → LamX.Tabs (TTb Pt Pb) H' → Q (.bl true) H'
section
variable {P : Program} {w : World} {K : PySem.W.Frag} {mg : Str → Option Value} {base : Heap} {aS a1 a2 aL aT : Addr} {f : Addr} {fd : FuncData} {C CD CY CF CI CO CS CD CT c Pt Pb g : Addr} {fdg : FuncData} {mc : Value}
abbrev s_law_refused_right : Stmt := top 38
abbrev N_law_refused_right : List Str := ["_law_pot_here", "_law_model_here", "_law_near", "_law_far", "_law_found", "_law_odd", "_law_heard_here", "_law_spot", "_law_last", "_law_others", "_law_bent", "_law_first_wrong"]
theorem sc_law_refused_right : FnScope N_law_refused_right ["_law_pot_here", "_law_model_here"] (defScope s_law_refused_right) := ⟨rfl, rfl, rfl, by decide +kernel, rfl, by decide +kernel, by decide +kernel⟩
theorem ok_law_refused_right (F : Fun K "_law_refused_right" "_law_refused_right" s_law_refused_right f fd) (hcv : fd.code = .ref c) (T : Txt K mg aS a1 a2) (N : HdA5 K mg CF CI CO CS CD CT) (ks : ∃ o, K.lookup sysModules = some o) (hV : mg "ValueError" = none) (TB : LamX.TabB base mg c Pt) (nTB : Pt ≠ Pb) (FH : Fun K "_law_heard" "_law_heard" s_law_heard g fdg) (mH : mg "_law_heard" = some (.ref g)) (bH : Binds K fdg ["_law_call"] []) (mkx : MakX P w K mg base 6 "Station" C (spStInitX C CI CO CS)) (mk1 : MakXK P w K mg base 6 "Station" C (spStInitX C CI CO CS) ["standings", "outs", "ins"] [0, 3, 2, 1]) (mk2 : MakXK P w K mg base 6 "Station" C (spStInitX C CI CO CS) ["standings", "ins", "outs"] [0, 2, 3, 1]) (c__law_draw : C8.Cal P w K mg base 1 "_law_draw" spDraw []) (c__law_pick : C8.Cal P w K mg base 2 "_law_pick" spPick []) (c__law_odd_standings : C8.Cal P w K mg base 2 "_law_odd_standings" spOddSt []) : FnG P w K mg base 12 f fd ["_law_pot_here", "_law_model_here"] (spRefused Pt Pb) := by
  refine fnGC_of F hcv sc_law_refused_right (fun vs H Q E h => ?_) (fun A0 outer s0 H vs Q E hgd hr h => ?_)
  · obtain ⟨p, v, t, rfl, _⟩ := h
    rfl
  obtain ⟨p, v, t, rfl, p0, tv0, tok, tb0, q⟩ := h
  have hgd' : ∀ e, (A0.deeper e).guards = some [] := fun _ => hgd
  refine ⟨_, (pss_cons (ps_asg (pv 1) (kTupG (n := 3) K rfl rfl (pgs_cons (pg_name (i := 2) sc_law_refused_right.nd rfl (Or.inr rfl)) (pgs_cons (pg_name (i := 3) sc_law_refused_right.nd rfl (Or.inr rfl)) (pgs_cons (pg_name (i := 4) sc_law_refused_right.nd rfl (Or.inr rfl)) pgs_nil)))))
        (pss_cons (ps_for PassesOwn.never rfl (kList K rfl (pe_lst (pa_cons pe_non (pa_cons pe_int (pa_cons pe_int (pa_cons (pe_un un_neg pe_int) (pa_cons pe_bl (pa_cons pe_str (pa_cons (pe_tup (pa_cons pe_int pa_nil)) (pa_cons (pe_lst (pa_cons pe_int pa_nil)) (pa_cons pe_dnewK (pa_cons (pe_op op_pow pe_int pe_int) pa_nil)))))))))))) (pg_name (i := 5) sc_law_refused_right.nd rfl (Or.inr rfl))
        (pss_cons (ps_set (i := 6) sc_law_refused_right.nd rfl (Or.inl rfl) (pe_lst (pa_cons (lam_heard (TS := TTb Pt Pb) FH mH bH T N ks hV TB rfl (List.mem_cons_self) (huN nTB) hgd hr rfl (sc := defScope s_law_refused_right) rfl (fun _ _ _ _ E _ _ hr => (pe_mkX mkx hr (by decide) rfl (passes_call (takes_of rfl rfl rfl rfl) (fun _ _ _ _ h => h)) (pa_cons (pv 5) (pa_cons pe_non (pa_cons pe_non pa_nil)))))) pa_nil)))
        (pss_cons (ps_expr (kBm K rfl PySem.F.plainAttrs_list PySem.F.slot_list_append PySem.F.type_list_append mt_append (pv 6) (pa_cons (lam_heard (TS := TTb Pt Pb) FH mH bH T N ks hV TB rfl (List.mem_cons_self) (huN nTB) hgd hr rfl (sc := defScope s_law_refused_right) rfl (fun _ _ _ _ E _ _ hr => (pe_mkX mkx hr (by decide) rfl (passes_call (takes_of rfl rfl rfl rfl) (fun _ _ _ _ h => h)) (pa_cons (pv 2) (pa_cons (pv 5) (pa_cons pe_non pa_nil)))))) pa_nil)))
        (pss_cons (ps_expr (kBm K rfl PySem.F.plainAttrs_list PySem.F.slot_list_append PySem.F.type_list_append mt_append (pv 6) (pa_cons (lam_heard (TS := TTb Pt Pb) FH mH bH T N ks hV TB rfl (List.mem_cons_self) (huN nTB) hgd hr rfl (sc := defScope s_law_refused_right) rfl (fun _ _ _ _ E _ _ hr => (pe_mkXK mk1 hr (by decide) rfl (passes_call (takes_of rfl rfl rfl rfl) (fun _ _ _ _ h => h)) (pk_cons (pv 4) (pk_cons (pv 5) (pk_cons (pv 2) pk_nil)))))) pa_nil)))
        (pss_one (ps_if (pt_cmpR (kNeD K rfl hr.units) (pv 6) (pe_lst (pa_cons (pe_lst (pa_cons pe_str (pa_cons (pe_callB (kReprT K w rfl rfl ks hgd hr) rfl T.b_repr bt_repr (pa_cons (pv 5) pa_nil)) (pa_cons pe_bl pa_nil)))) (pa_cons (pe_lst (pa_cons pe_str (pa_cons (pe_callB (kReprT K w rfl rfl ks hgd hr) rfl T.b_repr bt_repr (pa_cons (pv 5) pa_nil)) (pa_cons pe_bl pa_nil)))) (pa_cons (pe_lst (pa_cons pe_str (pa_cons (pe_callB (kReprT K w rfl rfl ks hgd hr) rfl T.b_repr bt_repr (pa_cons (pv 5) pa_nil)) (pa_cons pe_bl pa_nil)))) pa_nil)))) (nomark _))
        (pss_one (ps_ret pe_bl))
        pss_nil))))))
        (pss_cons (ps_for PassesOwn.never rfl (kList K rfl (pe_lst (pa_cons pe_non (pa_cons pe_int (pa_cons pe_bl (pa_cons pe_str (pa_cons pe_str (pa_cons pe_dnewK (pa_cons (pe_lst pa_nil) (pa_cons (pe_tup pa_nil) (pa_cons (pe_op op_cat (pv 4) (pe_op op_rep (pe_slice (kSlL K rfl) (pv 4) po_none (po_some pe_int)) (pe_op op_sub pe_int (pe_callB (kLen K rfl) rfl T.b_len bt_len (pa_cons (pv 4) pa_nil))))) pa_nil))))))))))) (pg_name (i := 5) sc_law_refused_right.nd rfl (Or.inr rfl))
        (pss_one (ps_if (pt_cmpR (kNeD K rfl hr.units) (lam_heard (TS := TTb Pt Pb) FH mH bH T N ks hV TB rfl (List.mem_cons_self) (huN nTB) hgd hr rfl (sc := defScope s_law_refused_right) rfl (fun _ _ _ _ E _ _ hr => (pe_mkX mkx hr (by decide) rfl (passes_call (takes_of rfl rfl rfl rfl) (fun _ _ _ _ h => h)) (pa_cons (pv 2) (pa_cons (pv 3) (pa_cons (pv 5) pa_nil)))))) (pe_lst (pa_cons pe_str (pa_cons pe_str (pa_cons pe_bl pa_nil)))) (nomark _))
        (pss_one (ps_ret pe_bl))
        pss_nil)))
        (pss_cons (ps_par (i := 7) (j := 8) rfl sc_law_refused_right.nd rfl rfl (by decide) rfl rfl (pa_cons (C8.pe_c c__law_draw hr (by decide) rfl (pa_cons (pv 0) (pa_cons (pe_callB (kLen K rfl) rfl T.b_len bt_len (pa_cons (pv 4) pa_nil)) pa_nil))) (pa_cons (C8.pe_c c__law_draw hr (by decide) rfl (pa_cons (pv 0) (pa_cons (pe_callB (kLen K rfl) rfl T.b_len bt_len (pa_cons (pv 4) pa_nil)) pa_nil))) pa_nil)) rfl)
        (pss_cons (ps_set (i := 9) sc_law_refused_right.nd rfl (Or.inl rfl) (C8.pe_c c__law_odd_standings hr (by decide) rfl (pa_cons (pv 0) (pa_cons (pv 1) (pa_cons (pv 8) pa_nil)))))
        (pss_cons (ps_for PassesOwn.never rfl (kList K rfl (C8.pe_c c__law_odd_standings hr (by decide) rfl (pa_cons (pv 0) (pa_cons (pv 1) (pa_cons (pv 7) pa_nil))))) (pg_name (i := 5) sc_law_refused_right.nd rfl (Or.inr rfl))
        (pss_cons (ps_asg (pe_tup (pa_cons (pe_callTy call_list_of rfl T.b_list bt_list (pa_cons (pv 4) pa_nil)) (pa_cons (pe_callTy call_int1 rfl T.b_int bt_int (pa_cons (pv 7) pa_nil)) pa_nil))) (kTupG (n := 2) K rfl rfl (pgs_cons (pg_name (i := 10) sc_law_refused_right.nd rfl (Or.inr rfl)) (pgs_cons (pg_name (i := 11) sc_law_refused_right.nd rfl (Or.inl rfl)) pgs_nil))))
        (pss_cons (ps_if (pt_cmpR op_eq (C8.pe_c c__law_draw hr (by decide) rfl (pa_cons (pv 0) (pa_cons pe_int pa_nil))) pe_int (nomark _))
        (pss_cons (ps_asg (C8.pe_c c__law_pick hr (by decide) rfl (pa_cons (pv 0) (pa_cons (pv 9) pa_nil))) (pg_sub (pv 10) (pv 8) set_list))
        (pss_one (ps_set (i := 11) sc_law_refused_right.nd rfl (Or.inl rfl) (pe_callB (call_min2 rfl) rfl T.b_min bt_min (pa_cons (pe_callTy call_int1 rfl T.b_int bt_int (pa_cons (pv 7) pa_nil)) (pa_cons (pe_callTy call_int1 rfl T.b_int bt_int (pa_cons (pv 8) pa_nil)) pa_nil))))))
        pss_nil)
        (pss_cons (ps_asg (pv 5) (pg_sub (pv 10) (pv 7) set_list))
        (pss_cons (ps_set (i := 6) sc_law_refused_right.nd rfl (Or.inl rfl) (pe_lst (pa_cons (lam_heard (TS := TTb Pt Pb) FH mH bH T N ks hV TB rfl (List.mem_cons_self) (huN nTB) hgd hr rfl (sc := defScope s_law_refused_right) rfl (fun _ _ _ _ E _ _ hr => (pe_mkX mkx hr (by decide) rfl (passes_call (takes_of rfl rfl rfl rfl) (fun _ _ _ _ h => h)) (pa_cons (pv 2) (pa_cons (pv 3) (pa_cons (pv 10) pa_nil)))))) pa_nil)))
        (pss_cons (ps_expr (kBm K rfl PySem.F.plainAttrs_list PySem.F.slot_list_append PySem.F.type_list_append mt_append (pv 6) (pa_cons (lam_heard (TS := TTb Pt Pb) FH mH bH T N ks hV TB rfl (List.mem_cons_self) (huN nTB) hgd hr rfl (sc := defScope s_law_refused_right) rfl (fun _ _ _ _ E _ _ hr => (pe_mkXK mk2 hr (by decide) rfl (passes_call (takes_of rfl rfl rfl rfl) (fun _ _ _ _ h => h)) (pk_cons (pe_callTy (kTupOf K rfl) rfl T.b_tuple bt_tuple (pa_cons (pv 10) pa_nil)) (pk_cons (pv 2) (pk_cons (pv 3) pk_nil)))))) pa_nil)))
        (pss_one (ps_if (pt_cmpR (kNeD K rfl hr.units) (pv 6) (pe_op op_rep (pe_lst (pa_cons (pe_lst (pa_cons pe_str (pa_cons (pe_callB SkE.call_repr_int rfl T.b_repr bt_repr (pa_cons (pv 11) pa_nil)) (pa_cons pe_bl pa_nil)))) pa_nil)) pe_int) (nomark _))
        (pss_one (ps_ret pe_bl))
        pss_nil))))))))
        (pss_one (ps_ret pe_bl)))))))), ?_⟩
  obtain ⟨a, F0, us, rfl, na, ha, nF, hF, hus⟩ := st_tv tv0
  have lus := hus.len
  rw [List.length_map] at lus
  have m1 := tok.m1
  have m4 := tok.m2
  refine seq_split (fun τ G => τ = [some (.ref p), some (.ref a), some (.int (t.ins : Nat)), some (.int (t.outs : Nat)), some (.ref F0), none, none, none, none, none, none, none] ∧ H = G) (fun D1 hD1 => ⟨_, rfl, _, _, rfl, SqT.of ha, rfl, _, _, rfl, _, _, rfl, _, _, rfl, rfl, hD1 _ _ ⟨rfl, rfl⟩⟩) ?_
  rintro τ G ⟨rfl, rfl⟩
  -- ins, outs
  refine seq_splitR (fun τ G => ∃ x5 x6, τ = [some (.ref p), some (.ref a), some (.int (t.ins : Nat)), some (.int (t.outs : Nat)), some (.ref F0), x5, x6, none, none, none, none, none] ∧ LamX.ExtN H G ∧ LamX.Tabs (TTb Pt Pb) G) (fun D1 hrt hD1 => ?_) ?_
  · refine ⟨_, rfl, sz rfl, fun T1 hT1 => ⟨sz rfl, fun T2 hT2 => fun T3 hT3 => ⟨_, _, rfl, rfl, ⟨by decide, by decide, by decide⟩, sz rfl, fun Lo hLo => ?_⟩⟩⟩
    have s1 := same_new hT1 (.tup [V.int 1])
    have s2 := same_new hT2 (.lst [V.int 2])
    have s3 := same_new hT3 (.dK [])
    have s4 := same_new hLo (.lst [V.non, .int 0, .int 3, .int (-1), .bl true, .str "1", .ref T1, .ref T2, .ref T3, .int (10 ^ (29 : Int).toNat)])
    have s14 := ((s1.trans' s2).trans' s3).trans' s4
    have vals : ∀ x ∈ [V.non, .int 0, .int 3, .int (-1), .bl true, .str "1", .ref T1, .ref T2, .ref T3, .int (10 ^ (29 : Int).toNat)], ∃ d, Tv p (upd (upd (upd (upd H T1 (.tup [V.int 1])) T2 (.lst [V.int 2])) T3 (.dK [])) Lo (.lst [V.non, .int 0, .int 3, .int (-1), .bl true, .str "1", .ref T1, .ref T2, .ref T3, .int (10 ^ (29 : Int).toNat)])) x d ∧ oddI d = true := fun x hx => by
      simp only [List.mem_cons, List.not_mem_nil, or_false] at hx
      rcases hx with rfl | rfl | rfl | rfl | rfl | rfl | rfl | rfl | rfl | rfl
      · exact ⟨_, .non, by decide +kernel⟩
      · exact ⟨_, .int _, by decide +kernel⟩
      · exact ⟨_, .int _, by decide +kernel⟩
      · exact ⟨_, .int _, by decide +kernel⟩
      · exact ⟨_, .bl _, by decide +kernel⟩
      · exact ⟨_, .str _, by decide +kernel⟩
      · exact ⟨.tuple [.int 1], .tup (p0.ne hT1) (s4 _ _ (s3 _ _ (s2 _ _ upd_same))) (.cons (.int _) .nil), by decide +kernel⟩
      · exact ⟨.list [.int 2], .lst ((p0.same s1).ne hT2) (s4 _ _ (s3 _ _ upd_same)) (.cons (.int _) .nil), by decide +kernel⟩
      · exact ⟨.dict [], .dic ((p0.same (s1.trans' s2)).ne hT3) (s4 _ _ upd_same), by decide +kernel⟩
      · exact ⟨_, .int _, by decide +kernel⟩
    generalize [V.non, .int 0, .int 3, .int (-1), .bl true, .str "1", .ref T1, .ref T2, .ref T3, .int (10 ^ (29 : Int).toNat)] = xs at *
    refine ⟨Lo, rfl, ⟨xs, SqL.of upd_same⟩, for_it (D := D1) walk_list (fun i τ G => ∃ x5 x6, τ = [some (.ref p), some (.ref a), some (.int (t.ins : Nat)), some (.int (t.outs : Nat)), some (.ref F0), x5, x6, none, none, none, none, none] ∧ LamX.ExtN H G ∧ LamX.Tabs (TTb Pt Pb) G ∧ G Lo = some (.lst xs) ∧ ∀ x ∈ xs, ∃ d, Tv p G x d ∧ oddI d = true) ⟨_, _, rfl, ext_of s14, (((tb0.ext s1).ext s2).ext s3).ext s4, upd_same, vals⟩ (fun i τ G _ ⟨_, _, _, _, _, e, _⟩ => SqL.of e) ?_ ?_⟩
    · rintro i x τ G1 G2 hi ⟨x5, x6, rfl, eG, tbG, hLG, vG⟩ ⟨rfl, hx⟩
      obtain ⟨d, tvx, od⟩ := vG x (List.mem_of_getElem? hx)
      obtain ⟨od1, od2⟩ := oddI_rp od
      have rp := rpB_of od2 tvx
      have sok := rpB_ok od2
      have ei := insD_ok tok.i1 tok.i2
      refine seq_splitR (fun τ G => ∃ (N : Addr) (vs : List V), τ = [some (.ref p), some (.ref a), some (.int (t.ins : Nat)), some (.int (t.outs : Nat)), some (.ref F0), some x, some (.ref N), none, none, none, none, none] ∧ LamX.ExtN G2 G ∧ LamX.Tabs (TTb Pt Pb) G ∧ NB G2 N ∧ G N = some (.lst vs) ∧ vs.length = 1 ∧ V.ref N ∉ vs ∧ TolA G vs [toldD "ins" d.shown]) (fun D2 hrt2 hD2 => ?_) ?_
      · refine ⟨tbG, fun H1 e1 tb1 => heardS (nm := "ins") (s := d.shown) (fun G Q1 Q' sG hq => ⟨_, rfl, fun x dx hx hdx hn => mk_q (p := p) ((tvx.ext e1).same sG) .non .non (fun e h => nomatch h) (.inl ⟨od1, ivH .kI ((rp.ext e1).same sG) hq⟩) x dx hx hdx hn⟩) (fun H2 L s2 nL hL => ⟨sz rfl, fun N1 hN1 => ?_⟩)⟩
        have k3 := same_new hN1 (.lst [V.ref L])
        have e2 := e1.trans (ext_of s2)
        have nin : V.ref N1 ∉ [V.ref L] := fun m => by
          have := V.ref.inj (List.mem_singleton.mp m)
          rw [← this, hN1] at hL
          cases hL
        exact hD2 _ _ ⟨N1, _, rfl, e2.trans (ext_of k3), (tb1.ext s2).ext k3, nb_of e2 hN1, upd_same, rfl, nin, TolA.one (by decide +kernel) sok ⟨L, rfl, k3 _ _ hL⟩⟩
      rintro τ G3 ⟨N, vs, rfl, e3, tb3, nbN, hN, lv, nin, tol⟩
      have addL : ∀ {G : Hp} {L : Addr} {ws : List V} {ds : List PyData} {nm s : Str}, LamX.ExtN G2 G → LamX.Tabs (TTb Pt Pb) G → G N = some (.lst ws) → V.ref N ∉ ws → TolA G ws ds → L ≠ N → G L = some (.lst [.str nm, .str s, .bl true]) → PyData.strOk nm = true → PyData.strOk s = true → LamX.ExtN G2 (upd G N (.lst (ws ++ [.ref L]))) ∧ LamX.Tabs (TTb Pt Pb) (upd G N (.lst (ws ++ [.ref L]))) ∧ V.ref N ∉ ws ++ [.ref L] ∧ TolA (upd G N (.lst (ws ++ [.ref L]))) (ws ++ [.ref L]) (ds ++ [toldD nm s]) := fun e tb h n tl nl hL o1 o2 =>
        ⟨ext_at e nbN, tabs_at tb (fun _ _ => trivial) ⟨_, h⟩, fun m => by
          rcases List.mem_append.mp m with m | m
          · exact n m
          · exact nl (V.ref.inj (List.mem_singleton.mp m)).symm, TolA.snoc o1 o2 ⟨_, rfl, (upd_ne nl).trans hL⟩ (tl.off n)⟩
      refine seq_splitR (fun τ G => ∃ (vs : List V), τ = [some (.ref p), some (.ref a), some (.int (t.ins : Nat)), some (.int (t.outs : Nat)), some (.ref F0), some x, some (.ref N), none, none, none, none, none] ∧ LamX.ExtN G2 G ∧ LamX.Tabs (TTb Pt Pb) G ∧ G N = some (.lst vs) ∧ vs.length = 2 ∧ V.ref N ∉ vs ∧ TolA G vs [toldD "ins" d.shown, toldD "outs" d.shown]) (fun D2 hrt2 hD2 => ?_) ?_
      · refine ⟨_, rfl, .inl ⟨rfl, _, SqL.of hN⟩, tb3, fun H1 e1 tb1 => heardS (nm := "outs") (s := d.shown) (fun G Q1 Q' sG hq => ⟨_, rfl, _, rfl, fun x dx hx hdx hn => mk_q (p := p) (.int _) ((tvx.ext (e3.trans e1)).same sG) .non (fun e h => nomatch h) (.inr (.inl ⟨ei, od1, ivH .kO ((rp.ext (e3.trans e1)).same sG) hq⟩)) x dx hx hdx hn⟩) (fun H2 L s2 nL hL => ?_)⟩
        have e2 := e1.trans (ext_of s2)
        have hN2 := ExtN_lst e2 hN
        obtain ⟨x1, x2, x3, x4⟩ := addL (nm := "outs") (s := d.shown) (e3.trans e2) (tb1.ext s2) hN2 nin (tol.ext e2) (fun z => by rw [z, ExtN_lst e1 hN] at nL; cases nL) hL (by decide +kernel) sok
        refine ⟨N, vs, _, rfl, rfl, hN2, by rw [lv]; decide, hD2 _ _ ⟨_, rfl, x1, x2, upd_same, by rw [List.length_append, lv]; rfl, x3, x4⟩⟩
      rintro τ G4 ⟨vs2, rfl, e4, tb4, hN4, lv2, nin2, tol2⟩
      refine seq_splitR (fun τ G => ∃ (vs : List V), τ = [some (.ref p), some (.ref a), some (.int (t.ins : Nat)), some (.int (t.outs : Nat)), some (.ref F0), some x, some (.ref N), none, none, none, none, none] ∧ LamX.ExtN G2 G ∧ LamX.Tabs (TTb Pt Pb) G ∧ G N = some (.lst vs) ∧ vs.length = 3 ∧ V.ref N ∉ vs ∧ TolA G vs [toldD "ins" d.shown, toldD "outs" d.shown, toldD "outs" d.shown]) (fun D2 hrt2 hD2 => ?_) ?_
      · refine ⟨_, rfl, .inl ⟨rfl, _, SqL.of hN4⟩, tb4, fun H1 e1 tb1 => heardS (nm := "outs") (s := d.shown) (fun G Q1 Q' sG hq => ⟨_, rfl, _, rfl, _, rfl, rfl, rfl, fun x dx hx hdx hn => mk_q (p := p) (.int _) ((tvx.ext (e4.trans e1)).same sG) (.lst nF (sG _ _ (ExtN_lst ((eG.trans e4).trans e1) hF)) ((hus.ext ((eG.trans e4).trans e1)).same sG)) (sgd_sh tok.sg (sgD_tos _)) (.inr (.inl ⟨ei, od1, ivH .kO ((rp.ext (e4.trans e1)).same sG) hq⟩)) x dx hx hdx hn⟩) (fun H2 L s2 nL hL => ?_)⟩
        have e2 := e1.trans (ext_of s2)
        have hN2 := ExtN_lst e2 hN4
        obtain ⟨x1, x2, x3, x4⟩ := addL (nm := "outs") (s := d.shown) (e4.trans e2) (tb1.ext s2) hN2 nin2 (tol2.ext e2) (fun z => by rw [z, ExtN_lst e1 hN4] at nL; cases nL) hL (by decide +kernel) sok
        refine ⟨N, vs2, _, rfl, rfl, hN2, by rw [lv2]; decide, hD2 _ _ ⟨_, rfl, x1, x2, upd_same, by rw [List.length_append, lv2]; rfl, x3, x4⟩⟩
      rintro τ G5 ⟨vs3, rfl, e5, tb5, hN5, lv3, nin3, tol3⟩
      have tv5 := tvx.ext e5
      refine ⟨_, rfl, _, rfl, ?_⟩
      dsimp only [tNil]
      refine rpB_q od2 tv5 ⟨sz rfl, fun M1 hM1 => ?_⟩
      have k1 := same_new hM1 (.lst [V.str "ins", .str d.shown, .bl true])
      refine ⟨_, rfl, ?_⟩
      dsimp only [tNil]
      refine rpB_q od2 (tv5.same k1) ⟨sz rfl, fun M2 hM2 => ?_⟩
      have k2 := same_new hM2 (.lst [V.str "outs", .str d.shown, .bl true])
      refine ⟨_, rfl, ?_⟩
      dsimp only [tNil]
      refine rpB_q od2 ((tv5.same k1).same k2) ⟨sz rfl, fun M3 hM3 => ⟨sz rfl, fun M hM => ?_⟩⟩
      have k3 := same_new hM3 (.lst [V.str "outs", .str d.shown, .bl true])
      have k4 := same_new hM (.lst [V.ref M1, .ref M2, .ref M3])
      have k14 := ((k1.trans' k2).trans' k3).trans' k4
      refine told_ne (k14 _ _ hN5) upd_same (tol3.ext (ext_of k14)) ⟨⟨"ins", _, rfl, by decide +kernel, sok, M1, rfl, k4 _ _ (k3 _ _ (k2 _ _ upd_same))⟩, ⟨"outs", _, rfl, by decide +kernel, sok, M2, rfl, k4 _ _ (k3 _ _ upd_same)⟩, ⟨"outs", _, rfl, by decide +kernel, sok, M3, rfl, k4 _ _ upd_same⟩, trivial⟩ ⟨_, rfl, iteFd rfl ?_⟩
      have e6 := e5.trans (ext_of k14)
      exact ⟨_, _, rfl, (eG.trans e6), (((tb5.ext k1).ext k2).ext k3).ext k4, ExtN_lst e6 hLG, fun x hx => let ⟨d, h1, h2⟩ := vG x hx; ⟨d, h1.ext e6, h2⟩⟩
    rintro τ G ⟨x5, x6, rfl, eG, tbG, _⟩
    exact hD1 _ _ ⟨x5, x6, rfl, eG, tbG⟩
  rintro τ H1 ⟨x5, x6, rfl, e1, tb1⟩
  have ei := insD_ok tok.i1 tok.i2
  have eo := insD_ok tok.o1 tok.o2
  have goodS := sgd_sh tok.sg (sgD_tos t.stgs)
  -- standings
  refine seq_splitR (fun τ G => ∃ x5, τ = [some (.ref p), some (.ref a), some (.int (t.ins : Nat)), some (.int (t.outs : Nat)), some (.ref F0), x5, x6, none, none, none, none, none] ∧ LamX.ExtN H G ∧ LamX.Tabs (TTb Pt Pb) G) (fun D1 hrt hD1 => ?_) ?_
  · have hF1 := ExtN_lst e1 hF
    have hus1 := hus.ext e1
    have hu0 : us = us.take 1 ++ us.drop 1 := (List.take_append_drop 1 us).symm
    obtain ⟨u0, ur, eu⟩ : ∃ u0 ur, us = u0 :: ur := by
      cases us with
      | nil => rw [List.length_nil] at lus; omega
      | cons x y => exact ⟨x, y, rfl⟩
    obtain ⟨S0, hS0⟩ : ∃ S0, t.stgs[0]? = some S0 := ⟨_, List.getElem?_eq_getElem (by omega)⟩
    have tv0' : Tv p H1 u0 (toD S0) := by
      obtain ⟨d', h1, h2⟩ := hus1.at (i := 0) (v := u0) (by rw [eu]; rfl)
      rw [List.getElem?_map, hS0] at h1
      rw [← Option.some.inj h1] at h2
      exact h2
    refine fun T1 hT1 => ⟨sz rfl, fun T2 hT2 => ⟨sz rfl, fun T3 hT3 => ?_⟩⟩
    have s1 := same_new hT1 (.dK [])
    have s2 := same_new hT2 (.lst [])
    have s3 := same_new hT3 (.tup [])
    have s13 := (s1.trans' s2).trans' s3
    refine ⟨_, rfl, _, rfl, _, rfl, F0, us, rfl, SqL.of (s13 _ _ hF1), fun X1 hX1 => ?_⟩
    have s4 := same_new hX1 (.lst (cutV us none (some 1)))
    refine ⟨_, rfl, F0, us, rfl, .inl (SqL.of ((s13.trans' s4) _ _ hF1)), _, _, rfl, rfl, ?_⟩
    rw [lus]
    obtain ⟨k, hk⟩ : ∃ k : Nat, (5 : Int) - (t.stgs.length : Int) = (k : Nat) := ⟨5 - t.stgs.length, by omega⟩
    refine ⟨X1, (k : Int), _, rfl, congrArg V.int hk, upd_same, by omega, by omega, ?_, fun X2 hX2 => ?_⟩
    · rw [cut_t1, List.length_take, Int.toNat_natCast]
      exact Nat.le_trans (Nat.mul_le_mul (Nat.min_le_left 1 _) (show k ≤ 5 by omega)) (by decide)
    have s5 := same_new hX2 (.lst (List.replicate (k : Int).toNat (cutV us none (some 1))).flatten)
    have exs : (List.replicate (k : Int).toNat (cutV us none (some 1))).flatten = List.replicate k u0 := by
      rw [cut_t1, Int.toNat_natCast, eu]
      exact rep_one u0 k
    refine ⟨F0, X2, us, _, rfl, rfl, (s13.trans' (s4.trans' s5)) _ _ hF1, upd_same, by rw [exs, List.length_replicate, lus]; exact Nat.le_trans (show _ ≤ 10 by omega) (by decide), fun X3 hX3 => ⟨sz rfl, fun Lo hLo => ?_⟩⟩
    have s6 := same_new hX3 (.lst (us ++ (List.replicate (k : Int).toNat (cutV us none (some 1))).flatten))
    have s7 := same_new hLo (.lst [V.non, .int 0, .bl true, .str "", .str "1", .ref T1, .ref T2, .ref T3, .ref X3])
    have s36 := (s4.trans' s5).trans' s6
    have s17 := (s13.trans' s36).trans' s7
    have p1 := ExtN_pot e1 p0
    have vals : ∀ x ∈ [V.non, .int 0, .bl true, .str "", .str "1", .ref T1, .ref T2, .ref T3, .ref X3], ∃ d, Tv p (upd (upd (upd (upd (upd (upd (upd H1 T1 (.dK [])) T2 (.lst [])) T3 (.tup [])) X1 (.lst (cutV us none (some 1)))) X2 (.lst (List.replicate (k : Int).toNat (cutV us none (some 1))).flatten)) X3 (.lst (us ++ (List.replicate (k : Int).toNat (cutV us none (some 1))).flatten))) Lo (.lst [V.non, .int 0, .bl true, .str "", .str "1", .ref T1, .ref T2, .ref T3, .ref X3])) x d ∧ sizB d = false ∧ ∀ e ∈ elsO d, shStn e ∧ lenO e := fun x hx => by
      simp only [List.mem_cons, List.not_mem_nil, or_false] at hx
      have no : ∀ e ∈ ([] : List PyData), shStn e ∧ lenO e := fun e h => nomatch h
      rcases hx with rfl | rfl | rfl | rfl | rfl | rfl | rfl | rfl | rfl
      · exact ⟨_, .non, rfl, no⟩
      · exact ⟨_, .int _, rfl, no⟩
      · exact ⟨_, .bl _, rfl, no⟩
      · exact ⟨_, .str _, rfl, no⟩
      · exact ⟨_, .str _, rfl, no⟩
      · exact ⟨.dict [], .dic (p1.ne hT1) (s7 _ _ (s36 _ _ (s3 _ _ (s2 _ _ upd_same)))), rfl, no⟩
      · exact ⟨.list [], .lst ((p1.same s1).ne hT2) (s7 _ _ (s36 _ _ (s3 _ _ upd_same))) .nil, rfl, no⟩
      · exact ⟨.tuple [], .tup ((p1.same (s1.trans' s2)).ne hT3) (s7 _ _ (s36 _ _ upd_same)) .nil, rfl, no⟩
      · refine ⟨.list (t.stgs.map toD ++ List.replicate k (toD S0)), .lst ((p1.same (s13.trans' (s4.trans' s5))).ne hX3) (s7 _ _ upd_same) (by
          have h := (hus1.same s17).app (tv_rep (tv0'.same s17) k)
          rw [← exs] at h
          exact h), ?_, fun e he => ?_⟩
        · show (true && (decide (1 ≤ (t.stgs.map toD ++ List.replicate k (toD S0)).length) && decide ((t.stgs.map toD ++ List.replicate k (toD S0)).length ≤ 4))) = false
          rw [List.length_append, List.length_map, List.length_replicate, decide_eq_false (show ¬ t.stgs.length + k ≤ 4 by omega), Bool.and_false, Bool.and_false]
        · rcases List.mem_append.mp he with he | he
          · exact goodS e he
          · obtain ⟨_, rfl⟩ := List.mem_replicate.mp he
            exact goodS _ (List.mem_map.mpr ⟨S0, List.mem_of_getElem? hS0, rfl⟩)
    generalize [V.non, .int 0, .bl true, .str "", .str "1", .ref T1, .ref T2, .ref T3, .ref X3] = xs at *
    have en : (PyData.none).shown = ("None" : Str) := PyData.shown_none
    have rpN : ∀ G : Hp, RepV G .non "None" := fun G => by
      have := rpB_of (H := G) (p := p) (d := .none) (by decide +kernel) .non
      rw [en] at this
      exact this
    have okS : PyData.strOk "standings" = true := by decide +kernel
    have okN : PyData.strOk "None" = true := by decide +kernel
    refine ⟨Lo, rfl, ⟨xs, SqL.of upd_same⟩, for_it (D := D1) walk_list (fun i τ G => ∃ x5, τ = [some (.ref p), some (.ref a), some (.int (t.ins : Nat)), some (.int (t.outs : Nat)), some (.ref F0), x5, x6, none, none, none, none, none] ∧ LamX.ExtN H G ∧ LamX.Tabs (TTb Pt Pb) G ∧ G Lo = some (.lst xs) ∧ ∀ x ∈ xs, ∃ d, Tv p G x d ∧ sizB d = false ∧ ∀ e ∈ elsO d, shStn e ∧ lenO e) ⟨_, rfl, e1.trans (ext_of s17), ((((((tb1.ext s1).ext s2).ext s3).ext s4).ext s5).ext s6).ext s7, upd_same, vals⟩ (fun i τ G _ ⟨_, _, _, _, e, _⟩ => SqL.of e) ?_ ?_⟩
    · rintro i x τ G1 G2 hi ⟨x5, rfl, eG, tbG, hLG, vG⟩ ⟨rfl, hx⟩
      obtain ⟨d, tvx, od1, od2⟩ := vG x (List.mem_of_getElem? hx)
      refine ⟨tbG, fun H3 e3 tb3 => heardS (nm := "standings") (s := "None") (fun G Q1 Q' sG hq => ⟨_, rfl, _, rfl, _, rfl, fun x dx hx hdx hn => mk_q (p := p) (.int _) (.int _) ((tvx.ext e3).same sG) od2 (.inr (.inr (.inl ⟨ei, eo, od1, isH .kS (rpN _) hq⟩))) x dx hx hdx hn⟩) (fun H4 L s4 nL hL => ⟨sz rfl, fun M hM => ?_⟩)⟩
      have k3 := same_new hM (.lst [V.str "standings", .str "None", .bl true])
      have e4 := (e3.trans (ext_of s4)).trans (ext_of k3)
      refine ⟨toldD "standings" "None", toldD "standings" "None", ToldH.dp ⟨L, rfl, k3 _ _ hL⟩, ToldH.dp ⟨M, rfl, upd_same⟩, told_shp okS okN, told_shp okS okN, _, rfl, iteFd (neD (eqv_told _ _)) ?_⟩
      exact ⟨_, rfl, eG.trans e4, (tb3.ext s4).ext k3, ExtN_lst e4 hLG, fun x hx => let ⟨d, h1, h2, h3⟩ := vG x hx; ⟨d, h1.ext e4, h2, h3⟩⟩
    rintro τ G ⟨x5, rfl, eG, tbG, _⟩
    exact hD1 _ _ ⟨x5, rfl, eG, tbG⟩
  rintro τ H2 ⟨x5', rfl, e2, tb2⟩
  have p2 := ExtN_pot e2 p0
  -- where
  refine seq_split (fun τ G => ∃ sp la : Nat, sp < t.stgs.length ∧ la < t.stgs.length ∧ τ = [some (.ref p), some (.ref a), some (.int (t.ins : Nat)), some (.int (t.outs : Nat)), some (.ref F0), x5', x6, some (.int (sp : Nat)), some (.int (la : Nat)), none, none, none] ∧ KpN p H G ∧ Pot p G ∧ LamX.Tabs (TTb Pt Pb) G) (fun D1 hD1 => ?_) ?_
  · refine ⟨_, rfl, _, rfl, F0, us, rfl, .inl (SqL.of (ExtN_lst e2 hF)), ?_⟩
    dsimp only [tNil]
    refine ⟨p, _, rfl, p2, by omega, by omega, fun d G d0 d1 k3 p3 => ?_⟩
    obtain ⟨sp, rfl⟩ := Int.eq_ofNat_of_zero_le d0
    have kF : KpN p H G := (KpN.ext e2).trans (KpN.kp k3)
    refine ⟨_, rfl, _, rfl, F0, us, rfl, .inl (SqL.of (kF.lst nF hF)), ?_⟩
    dsimp only [tNil]
    refine ⟨p, _, rfl, p3, by omega, by omega, fun d G4 d0' d1' k4 p4 => ?_⟩
    obtain ⟨la, rfl⟩ := Int.eq_ofNat_of_zero_le d0'
    exact ⟨_, _, rfl, hD1 _ _ ⟨sp, la, by omega, by omega, rfl, kF.trans (KpN.kp k4), p4, tabs_kp p3 k4 (tabs_kp p2 k3 tb2)⟩⟩
  rintro τ H3 ⟨sp, la, lsp, lla, rfl, k3, p3, tb3⟩
  have tv3 := tv0.kpN k3
  refine seq_split (fun τ G => ∃ (Lo : Addr) (oth : List V), τ = [some (.ref p), some (.ref a), some (.int (t.ins : Nat)), some (.int (t.outs : Nat)), some (.ref F0), x5', x6, some (.int (sp : Nat)), some (.int (la : Nat)), some (.ref Lo), none, none] ∧ KpN p H G ∧ Pot p G ∧ LamX.Tabs (TTb Pt Pb) G ∧ Lo ≠ p ∧ G Lo = some (.lst oth) ∧ AllZ (oddS t.ins t.outs t.stgs.length) [p] G oth ∧ 0 < oth.length ∧ oth.length ≤ 50) (fun D1 hD1 => ?_) ?_
  · refine ⟨_, rfl, _, rfl, _, rfl, ?_⟩
    dsimp only [tNil]
    exact ⟨p, .ref a, t, la, rfl, p3, tv3, tok, lla, fun G Lo oth k p' nL hL az l0 l50 => hD1 _ _ ⟨Lo, oth, rfl, k3.trans (KpN.kp k), p', tabs_kp p3 k tb3, nL, hL, az, l0, l50⟩⟩
  rintro τ H4 ⟨Lo, oth, rfl, k4, p4, tb4, nLo, hLo4, azo4, lo0, lo50⟩
  have tv4 := tv0.kpN k4
  refine seq_splitR (fun τ G => ∃ x5 x6 x10 x11, τ = [some (.ref p), some (.ref a), some (.int (t.ins : Nat)), some (.int (t.outs : Nat)), some (.ref F0), x5, x6, some (.int (sp : Nat)), some (.int (la : Nat)), some (.ref Lo), x10, x11] ∧ KpN p H G ∧ Pot p G ∧ LamX.Tabs (TTb Pt Pb) G) (fun D1 hrt hD1 => ?_) ?_
  · refine ⟨_, rfl, _, rfl, _, rfl, ?_⟩
    dsimp only [tNil]
    refine ⟨p, .ref a, t, sp, rfl, p4, tv4, tok, lsp, fun G5 Lx xs k5 p5 nLx hLx azx lx0 lx50 => ?_⟩
    refine ⟨Lx, rfl, ⟨xs, SqL.of hLx⟩, for_it (D := D1) walk_list (fun i τ G => ∃ x5 x6 x10 x11, τ = [some (.ref p), some (.ref a), some (.int (t.ins : Nat)), some (.int (t.outs : Nat)), some (.ref F0), x5, x6, some (.int (sp : Nat)), some (.int (la : Nat)), some (.ref Lo), x10, x11] ∧ KpN p H G ∧ Pot p G ∧ LamX.Tabs (TTb Pt Pb) G ∧ G Lo = some (.lst oth) ∧ AllZ (oddS t.ins t.outs t.stgs.length) [p] G oth ∧ G Lx = some (.lst xs) ∧ AllZ (oddS t.ins t.outs t.stgs.length) [p] G xs) ⟨_, _, _, _, rfl, k4.trans (KpN.kp k5), p5, tabs_kp p4 k5 tb4, k5 _ _ nLo hLo4, azo4.kpN (KpN.kp k5), hLx, azx⟩ (fun i τ G _ ⟨_, _, _, _, _, _, _, _, _, _, e, _⟩ => SqL.of e) ?_ ?_⟩
    · rintro i x τ G0 G1 hi ⟨x5, x6, x10, x11, rfl, kG, pG, tbG, hLoG, azoG, hLxG, azxG⟩ ⟨rfl, hx⟩
      obtain ⟨dx, tzx, ox⟩ := azxG x (List.mem_of_getElem? hx)
      have hFG := kG.lst nF hF
      have husG : TvAll p G1 us (t.stgs.map toD) := TvAll.dk (fun b o n dt h => kG b o n (fun ps z => by rw [z] at dt; exact dt) h) _ hus
      have mp : p ∈ [p] := List.mem_singleton.mpr rfl
      -- bent
      refine seq_splitR (fun τ G => ∃ B : Addr, τ = [some (.ref p), some (.ref a), some (.int (t.ins : Nat)), some (.int (t.outs : Nat)), some (.ref F0), some x, x6, some (.int (sp : Nat)), some (.int (la : Nat)), some (.ref Lo), some (.ref B), some (.int (sp : Nat))] ∧ Same G1 G ∧ G1 B = none ∧ G B = some (.lst us)) (fun D2 hrt2 hD2 => ?_) ?_
      · refine ⟨_, rfl, F0, us, rfl, .inl (SqL.of hFG), fun B hB => ⟨_, rfl, .inl ⟨_, rfl, sz rfl, fun T0 hT0 => ⟨_, _, rfl, SqT.of upd_same, rfl, _, _, rfl, _, _, rfl, rfl, ?_⟩⟩⟩⟩
        have n1 := same_new hB (.lst us)
        have n2 := same_new hT0 (.tup [V.ref B, .int (sp : Nat)])
        exact hD2 _ _ ⟨B, rfl, n1.trans' n2, hB, n2 _ _ upd_same⟩
      rintro τ G2 ⟨B, rfl, s2, fB, hB2⟩
      have nBp : B ≠ p := pG.ne fB
      have azB : AllZ (oddS t.ins t.outs t.stgs.length) [B, p] G2 oth := (azoG.fresh mp fB).same s2
      have tzxB : TZ [B, p] G2 x dx := (tzx.fresh mp fB).same s2
      have tuB : TZs [B, p] G2 us (t.stgs.map toD) := (TZs.fresh (Z := [p]) (z := p) (fun z hz => by rw [List.mem_singleton.mp hz]; exact husG) mp fB).same s2
      have pG2 := pG.same s2
      have tb2' := tbG.ext s2
      have mB : B ∈ [B, p] := List.mem_cons_self ..
      have mP : p ∈ [B, p] := List.mem_cons_of_mem _ mp
      have kB : ∀ (F : Hp) (o : HO), Kp B F (upd F B o) := fun F o b u n e => (upd_ne n).trans e
      refine seq_splitR (fun τ G => ∃ (bs : List V) (ds : List PyData) (k : Nat), τ = [some (.ref p), some (.ref a), some (.int (t.ins : Nat)), some (.int (t.outs : Nat)), some (.ref F0), some x, x6, some (.int (sp : Nat)), some (.int (la : Nat)), some (.ref Lo), some (.ref B), some (.int (k : Nat))] ∧ G B = some (.lst bs) ∧ TZs [B, p] G bs ds ∧ TZ [B, p] G x dx ∧ bs.length = t.stgs.length ∧ Bd t sp la ds k ∧ KpN p G1 G ∧ Pot p G ∧ LamX.Tabs (TTb Pt Pb) G) (fun D2 hrt2 hD2 => ?_) ?_
      · refine ⟨_, rfl, ?_⟩
        dsimp only [tNil]
        refine ⟨p, _, rfl, pG2, by decide, by decide, fun d G3 d0 d1 k3' p3' => ⟨rfl, _, rfl, ?_⟩⟩
        have tb3' := tabs_kp pG2 k3' tb2'
        have kp13 : KpN p G1 G3 := (KpN.kp (Kp.of s2)).trans (KpN.kp k3')
        by_cases zd : d = 0
        case neg => exact iteFd (decide_eq_false fun e => zd (V.int.inj e)) (hD2 _ _ ⟨us, _, sp, rfl, k3' _ _ nBp hB2, tuB.off mP k3', tzxB.off mP k3', lus, .inl ⟨rfl, rfl⟩, kp13, p3', tb3'⟩)
        refine iteTd (by rw [zd]; rfl) ⟨_, rfl, _, rfl, ?_⟩
        dsimp only [tNil]
        have hLo3 := k3' _ _ nLo (s2 _ _ hLoG)
        refine ⟨p, Lo, oth, rfl, p3', nLo, hLo3, lo0, by omega, fun y G4 hy k4' p4' => ?_⟩
        obtain ⟨d1, tz1, o1⟩ := (azB.off mP k3').off mP k4' y hy
        have hB4 := k4' _ _ nBp (k3' _ _ nBp hB2)
        refine ⟨_, rfl, _, rfl, B, us, _, la, rfl, rfl, hB4, ixN_natS (by omega), ?_⟩
        refine ⟨_, rfl, .inl ⟨_, rfl, _, rfl, .inl ⟨_, rfl, _, _, rfl, ?_⟩⟩⟩
        have em : (if (la : Int) < (sp : Int) then (la : Int) else (sp : Int)) = ((if la < sp then la else sp : Nat) : Int) := by
          by_cases z : la < sp
          · rw [if_pos z, if_pos (by omega)]
          · rw [if_neg z, if_neg (by omega)]
        rw [em]
        exact hD2 _ _ ⟨us.set la y, _, _, rfl, upd_same, (tvs_set ((tuB.off mP k3').off mP k4') tz1 la).off mB (kB _ _), ((tzxB.off mP k3').off mP k4').off mB (kB _ _), by rw [List.length_set]; exact lus, .inr ⟨d1, o1, rfl, rfl⟩, (kp13.trans (KpN.kp k4')).at fB, pot_at p4' nBp, tabs_at (tabs_kp p3' k4' tb3') (fun _ _ => trivial) ⟨_, hB4⟩⟩
      rintro τ G3 ⟨bs, ds, k, rfl, hB3, tbs3, tzx3, lbs, bd, kp13, pG3, tb3'⟩
      have lk := bd.lt lsp lla
      -- the odd one
      refine seq_splitR (fun τ G => ∃ (bs' : List V) (ds' : List PyData), τ = [some (.ref p), some (.ref a), some (.int (t.ins : Nat)), some (.int (t.outs : Nat)), some (.ref F0), some x, x6, some (.int (sp : Nat)), some (.int (la : Nat)), some (.ref Lo), some (.ref B), some (.int (k : Nat))] ∧ G B = some (.lst bs') ∧ TvAll p G bs' ds' ∧ Wr t ds' k ∧ KpN p G1 G ∧ Pot p G ∧ LamX.Tabs (TTb Pt Pb) G) (fun D2 hrt2 hD2 => ?_) ?_
      · refine ⟨_, rfl, _, rfl, _, rfl, B, bs, _, sp, rfl, rfl, hB3, ixN_natS (by omega), ?_⟩
        exact hD2 _ _ ⟨_, _, rfl, upd_same, ((tvs_set tbs3 tzx3 sp).off mB (kB _ _)) p mP, bd.wr tok lsp lla ox, kp13.at fB, pot_at pG3 nBp, tabs_at tb3' (fun _ _ => trivial) ⟨_, hB3⟩⟩
      rintro τ G4 ⟨bs', ds', rfl, hB4, tvb, wr, kp14, pG4, tb4'⟩
      obtain ⟨dw, hdw, bdw⟩ := wr.at_
      have lw := wr.ln
      have rpk0 : rpB (.int ((k : Nat) : Int)) = true := pos_rp ⟨k, by omega⟩
      have rpK : ∀ G : Hp, RepV G (.int (k : Nat)) (PyData.int (k : Nat)).shown := fun G => rpB_of (p := p) rpk0 (.int _)
      have okK := rpB_ok rpk0
      have okS : PyData.strOk "standings" = true := by decide +kernel
      have szW : ∀ d, isSeqD d = true → elsO d = ds' → sizB d = true := fun d h1 h2 => by
        unfold sizB
        rw [h1, h2, decide_eq_true (by omega), decide_eq_true (by omega)]
        rfl
      have caseW : ∀ {d : PyData} {Q1 : VK} {G : Hp}, isSeqD d = true → elsO d = ds' → isE CS (hdE CI CO CS CD CT Q1) G (.int (k : Nat)) → ∀ g, stCase CI CO CS (.int (t.ins : Nat)) (.int (t.outs : Nat)) d (.int (t.ins : Nat)) (.int (t.outs : Nat)) (hdE CI CO CS CD CT Q1) G g := fun {d Q1 G} h1 h2 e g =>
        .inr (.inr (.inr (.inl ⟨t.ins, t.outs, rfl, rfl, ei, eo, szW d h1 h2, k, dw, by rw [h2]; exact hdw, fun j x hj hx => by rw [h2] at hx; rw [h2, lw]; exact wr.bef j x hj hx, by rw [h2, lw]; exact bdw, e⟩)))
      refine seq_splitR (fun τ G => ∃ (N : Addr) (vs : List V), τ = [some (.ref p), some (.ref a), some (.int (t.ins : Nat)), some (.int (t.outs : Nat)), some (.ref F0), some x, some (.ref N), some (.int (sp : Nat)), some (.int (la : Nat)), some (.ref Lo), some (.ref B), some (.int (k : Nat))] ∧ LamX.ExtN G4 G ∧ LamX.Tabs (TTb Pt Pb) G ∧ NB G4 N ∧ G N = some (.lst vs) ∧ vs.length = 1 ∧ V.ref N ∉ vs ∧ TolA G vs [toldD "standings" (PyData.int (k : Nat)).shown]) (fun D2 hrt2 hD2 => ?_) ?_
      · refine ⟨tb4', fun H1 e1 tb1 => heardS (nm := "standings") (s := (PyData.int (k : Nat)).shown) (fun G Q1 Q' sG hq => ⟨_, rfl, _, rfl, _, rfl, fun x dx hx hdx hn => mk_q (p := p) (.int _) (.int _) (.lst nBp (sG _ _ (ExtN_lst e1 hB4)) ((tvb.ext e1).same sG)) wr.sh (caseW rfl rfl (isH .kS (rpK _) hq) _) x dx hx hdx hn⟩) (fun H2 L s2 nL hL => ⟨sz rfl, fun N1 hN1 => ?_⟩)⟩
        have k3 := same_new hN1 (.lst [V.ref L])
        have e2 := e1.trans (ext_of s2)
        have nin : V.ref N1 ∉ [V.ref L] := fun m => by
          have := V.ref.inj (List.mem_singleton.mp m)
          rw [← this, hN1] at hL
          cases hL
        exact hD2 _ _ ⟨N1, _, rfl, e2.trans (ext_of k3), (tb1.ext s2).ext k3, nb_of e2 hN1, upd_same, rfl, nin, TolA.one okS okK ⟨L, rfl, k3 _ _ hL⟩⟩
      rintro τ G5 ⟨N, vs, rfl, e5, tb5, nbN, hN, lv, nin, tol⟩
      refine seq_splitR (fun τ G => ∃ (vs : List V), τ = [some (.ref p), some (.ref a), some (.int (t.ins : Nat)), some (.int (t.outs : Nat)), some (.ref F0), some x, some (.ref N), some (.int (sp : Nat)), some (.int (la : Nat)), some (.ref Lo), some (.ref B), some (.int (k : Nat))] ∧ LamX.ExtN G4 G ∧ LamX.Tabs (TTb Pt Pb) G ∧ G N = some (.lst vs) ∧ vs.length = 2 ∧ TolA G vs [toldD "standings" (PyData.int (k : Nat)).shown, toldD "standings" (PyData.int (k : Nat)).shown]) (fun D2 hrt2 hD2 => ?_) ?_
      · refine ⟨_, rfl, .inl ⟨rfl, _, SqL.of hN⟩, tb5, fun H1 e1 tb1 => heardS (nm := "standings") (s := (PyData.int (k : Nat)).shown) (fun G Q1 Q' sG hq => ⟨_, rfl, B, bs', rfl, .inl ⟨SqL.of (sG _ _ (ExtN_lst (e5.trans e1) hB4)), fun Tt hTt => ⟨_, rfl, _, rfl, rfl, rfl, fun x dx hx hdx hn => mk_q (p := p) (.int _) (.int _) (.tup ((ExtN_pot (e5.trans e1) pG4).same sG |>.ne hTt) upd_same (((tvb.ext (e5.trans e1)).same sG).same (same_new hTt _))) wr.sh (caseW rfl rfl (isH .kS (rpK _) fun H' L sm nL => hq H' L ((same_new hTt _).trans' sm) nL) _) x dx hx hdx hn⟩⟩⟩) (fun H2 L s2 nL hL => ?_)⟩
        have e2 := e1.trans (ext_of s2)
        have hN2 := ExtN_lst e2 hN
        have nLN : L ≠ N := fun z => by rw [z, ExtN_lst e1 hN] at nL; cases nL
        refine ⟨N, vs, _, rfl, rfl, hN2, by rw [lv]; decide, hD2 _ _ ⟨_, rfl, ext_at (e5.trans e2) nbN, tabs_at (tb1.ext s2) (fun _ _ => trivial) ⟨_, hN2⟩, upd_same, by rw [List.length_append, lv]; rfl, TolA.snoc okS okK ⟨_, rfl, (upd_ne nLN).trans hL⟩ ((tol.ext e2).off nin)⟩⟩
      rintro τ G6 ⟨vs2, rfl, e6, tb6, hN6, lv2, tol2⟩
      refine ⟨_, rfl, _, rfl, _, rfl, ?_, sz rfl, fun M1 hM1 => ⟨sz rfl, fun M2 hM2 => ?_⟩⟩
      · have : k = 0 ∨ k = 1 ∨ k = 2 ∨ k = 3 := by omega
        rcases this with h | h | h | h <;> rw [h] <;> decide
      have k1 := same_new hM1 (.lst [V.str "standings", .str ((toString ((k : Nat) : Int) : String) : Str), .bl true])
      have k2 := same_new hM2 (.lst [V.ref M1])
      refine ⟨M2, 2, _, rfl, rfl, upd_same, by decide, by decide, Nat.le_trans (show 1 * 2 ≤ 2 by decide) (by decide), fun M3 hM3 => ?_⟩
      have er : (List.replicate (2 : Int).toNat [V.ref M1]).flatten = [V.ref M1, V.ref M1] := rfl
      have k3 := same_new hM3 (.lst (List.replicate (2 : Int).toNat [V.ref M1]).flatten)
      have k13 := (k1.trans' k2).trans' k3
      have tM : ∃ nm s, toldD "standings" (PyData.int (k : Nat)).shown = toldD nm s ∧ PyData.strOk nm = true ∧ PyData.strOk s = true ∧ ToldH (upd (upd (upd G6 M1 (.lst [V.str "standings", .str ((toString ((k : Nat) : Int) : String) : Str), .bl true])) M2 (.lst [V.ref M1])) M3 (.lst (List.replicate (2 : Int).toNat [V.ref M1]).flatten)) (.ref M1) nm s := ⟨"standings", _, rfl, okS, okK, M1, rfl, by rw [pos_sh]; exact k3 _ _ (k2 _ _ upd_same)⟩
      refine told_ne (k13 _ _ hN6) (upd_same.trans (by rw [er])) (tol2.ext (ext_of k13)) (ws := [V.ref M1, V.ref M1]) ⟨tM, tM, trivial⟩ ⟨_, rfl, iteFd rfl ?_⟩
      have e7 := e6.trans (ext_of k13)
      have kN := kp14.trans (KpN.ext e7)
      exact ⟨_, _, _, _, rfl, kG.trans kN, ExtN_pot e7 pG4, ((tb6.ext k1).ext k2).ext k3, kN.lst nLo hLoG, azoG.kpN kN, kN.lst nLx hLxG, azxG.kpN kN⟩
    rintro τ G ⟨x5, x6, x10, x11, rfl, kG, pG, tbG, _⟩
    exact hD1 _ _ ⟨x5, x6, x10, x11, rfl, kG, pG, tbG⟩
  rintro τ H5 ⟨x5, x6, x10, x11, rfl, k5, p5, tb5⟩
  exact q H5 k5 p5 tb5
end
end FY


set_option Elab.async false
set_option linter.all false
set_option maxRecDepth 100000
set_option maxHeartbeats 4000000
/-! methods that may raise; methods called by keywords alone -/
namespace FY
open PySem PySem.Spec PyProof.Rows L2 FYR
structure MetX (P : Program) (w : World) (K : PySem.W.Frag) (mg : Str → Option Value) (base : Heap) (k : Nat) (C : Addr) (m : Str) (sp : Sp) : Prop where
  ex : ∃ (f : Addr) (fd : FuncData) (ps : List Str), Cls K C ∧ Meth K C m f ∧ FnOk P w K mg base (L2.CX P w) k f fd ps sp ∧ Binds K fd ps []
structure MetXK (P : Program) (w : World) (K : PySem.W.Frag) (mg : Str → Option Value) (base : Heap) (k : Nat) (C : Addr) (m : Str) (sp : Sp) (ks : List Str) (is : List Nat) : Prop where
  ex : ∃ (f : Addr) (fd : FuncData) (ps : List Str) (g : List Value → List Value → List Value), Cls K C ∧ Meth K C m f ∧ FnOk P w K mg base (L2.CX P w) k f fd ps sp ∧ KBn K fd ps 1 ks g (fun vs zs => pick is (vs ++ (zs ++ [])))
def tMethK (C : Addr) (m : Str) (nk : Nat) (sp : Sp) (gV : List V → List V → List V) (E : XK) (ta : TE) (tk : L2.TA) : TE := fun σ H Q => ta σ H fun x H1 => ∃ a dx fs, x = .ref a ∧ H1 a = some (.ins C dx fs) ∧ fs.lookup m = none ∧ tk σ H1 fun zs H2 => zs.length = nk ∧ sp (gV [.ref a] zs) H2 Q E
section
variable {X : Cx} {k j : Nat} {C : Addr} {m : Str} {sp : Sp} {p pos apos : Pos} {o e : Expr} {es : List Expr} {ta : TE} {t tk : L2.TA} {E : XK} {ks : List Str} {is : List Nat} {kws : List Keyword}
theorem pe_mtX {pl : Sem Bool} (c : MetX X.prog X.w X.K X.mg X.base k C m sp) (hr : Room j X.A) (hk : k ≤ j) (hx : Passes (L2.CX X.prog X.w) X E) (he : PE X o ta) (ha : PA X (e :: es) t)
    (hst : starEach (e :: es) X.env = (false, eval e X.env) :: starEach es X.env := by rfl) (hpl : (backTo pos (starEach es X.env)).any (·.1) = false := by rfl)
    (ht : eval (.Call (.Attribute o m apos) (e :: es) [] pos) X.env = (do
      let ov ← eval o X.env
      standAt apos.atName
      let (f, first) ← holding [ov] (getMethod ov m pl)
      callWith pos f first (backTo pos (starEach (e :: es) X.env)) (backToKw pos (keywordEach [] X.env))) := by rfl) :
    PE X (.Call (.Attribute o m apos) (e :: es) [] pos) (tMeth C m sp [] E ta t) := by
  obtain ⟨f, fd, ps, hc, hm, F, b⟩ := c.ex
  exact pe_meth (pl := pl) he hc hm F (hr.mono hk) b .nil hx ha hst hpl ht
theorem pe_mtXK {pl : Sem Bool} (c : MetXK X.prog X.w X.K X.mg X.base k C m sp ks is) (hr : Room j X.A) (hk : k ≤ j) (hx : Passes (L2.CX X.prog X.w) X E) (he : PE X o ta) (hkw : PK X kws tk)
    (hall : (backToKw pos (keywordEach kws X.env)).all (·.1.isSome) = true := by rfl) (hks : (backToKw pos (keywordEach kws X.env)).filterMap (·.1) = ks := by rfl)
    (hpl : ((backTo pos (starEach [] X.env)).any (·.1) || (backToKw pos (keywordEach kws X.env)).any (·.1.isNone)) = false := by rfl)
    (ht : eval (.Call (.Attribute o m apos) [] kws pos) X.env = (do
      let ov ← eval o X.env
      standAt apos.atName
      let (f, first) ← holding [ov] (getMethod ov m pl)
      callWith pos f first (backTo pos (starEach [] X.env)) (backToKw pos (keywordEach kws X.env))) := by rfl) :
    PE X (.Call (.Attribute o m apos) [] kws pos) (tMethK C m ks.length sp (fun vs zs => pick is (vs ++ (zs ++ []))) E ta tk) := by
  obtain ⟨f, fd, ps, g, hc, hm, F, b⟩ := c.ex
  refine ⟨fun pins s σ H Q I h => ?_⟩
  refine PySem.W.methodCall_KW (pl := pl) (thn (he.run pins s σ H _ I h) fun u s1 ⟨x, H1, I1, rx, a, dx, fs, ex, ea, l, q⟩ => ?_) ht
  subst ex
  obtain rfl : u = Value.ref a := rx
  refine getmeth_ok I1 ea hc hm l ?_
  refine PySem.W.callWith_KW0 (first := [.ref a]) (h₀ := X.base) I.ok.mod.kin hm.kp hall ?_ hpl
  refine thn (hkw.run pos pins s1 σ H1 _ I1 q) fun ws s2 ⟨zs, H2, I2, rz, l2, q2⟩ => ⟨I2.kIn, ?_⟩
  rw [hks]
  exact run_fnN (us := [.ref a]) (vs := [.ref a]) F (hr.mono hk) b hx I2 (.cons rfl .nil) rz rfl l2 q2
end
end FY

set_option Elab.async false
set_option linter.all false
set_option maxRecDepth 100000
set_option maxHeartbeats 8000000
namespace FY
open PySem L2 FYR
/-! ## rows that are told right -/
theorem StnA.ext {C : Addr} {H H' : Hp} (e : LamX.ExtN H H') {v : V} {t : Stn} (h : StnA C H v t) : StnA C H' v t := by
  obtain ⟨a, dx, p, ps, rfl, h1, h2, pr⟩ := h
  exact ⟨a, dx, p, ps, rfl, e _ _ h1 (fun _ z => nomatch z), ExtN_tups e _ _ h2, sgA_all (ExtN_tups e) pr⟩
def sgs : Rd → List (List Bool)
  | .both => [[false, false], [false, true], [true, false], [true, true]]
  | _ => [[false], [true]]
theorem sgs_len (r : Rd) : (sgs r).length = r.many := by cases r <;> rfl
theorem sgs_at (r : Rd) : ∀ j c, (sgs r)[j]? = some c → valB c = j ∧ c.length = r.s.length := by
  have two : ∀ j c, ([[false], [true]] : List (List Bool))[j]? = some c → valB c = j ∧ c.length = 1 := fun j c h => by
    match j, h with
    | 0, h => rw [← Option.some.inj h]; exact ⟨by decide, rfl⟩
    | 1, h => rw [← Option.some.inj h]; exact ⟨by decide, rfl⟩
  cases r with
  | one => exact fun j c h => let ⟨a, b⟩ := two j c h; ⟨a, b.trans (by decide +kernel)⟩
  | two => exact fun j c h => let ⟨a, b⟩ := two j c h; ⟨a, b.trans (by decide +kernel)⟩
  | both =>
    intro j c h
    have l2 : Rd.both.s.length = 2 := by decide +kernel
    rw [l2]
    match j, h with
    | 0, h => rw [← Option.some.inj h]; exact ⟨by decide, rfl⟩
    | 1, h => rw [← Option.some.inj h]; exact ⟨by decide, rfl⟩
    | 2, h => rw [← Option.some.inj h]; exact ⟨by decide, rfl⟩
    | 3, h => rw [← Option.some.inj h]; exact ⟨by decide, rfl⟩
theorem sgnB_tx {c : List Bool} {n : Nat} (h : c.length = n) : sgnB n (.str (tx c)) = true := by
  show (textB (tx c) && decide ((tx c).cps.size = n)) = true
  have e : (tx c).length = c.length := tx_len c
  have e2 : (tx c).length = (tx c).cps.size := rfl
  rw [tx_text, Bool.true_and]
  exact decide_eq_true (by omega)
theorem bel_ok {i n : Nat} (h : i < n) : belD n (.int (i : Nat)) = true := by
  show (decide (0 ≤ (i : Int)) && decide ((i : Int) < (n : Int))) = true
  rw [decide_eq_true (by omega), decide_eq_true (by omega)]
  rfl
section
variable {C CE CT p : Addr} {H : Hp} {s g : V} {t : Stn} {i : Nat} {S : Sg} {Q : VK} {E : XK}
theorem row_q (sa : StnA C H s t) (tok : t.ok) (hS : t.stgs[i]? = some S) {c : List Bool} {r : Rw} (hc : c.length = S.reads.s.length) (hr : S.rows[valB c]? = some r) (q : ∀ H' u, Same H H' → RwA H' u r → Q u H') : spRowX C CE CT [s, .int (i : Nat), .str (tx c)] H Q E := by
  have il := lt_len hS
  have l2 : S.reads.s.length ≤ 2 := rd_len _
  refine ⟨0, s, _, _, t, .int (i : Nat), .str (tx c), rfl, sa, tok, .int _, .str _, sh_tx (by omega), fun i' S' c' e1 e2 e3 _ H' r' u sm hr' ra => ?_, fun i' S' e1 e2 e3 => ?_, fun e => ?_⟩
  · have : i = i' := by have := PyData.int.inj e1; omega
    subst this
    rw [hS] at e2
    obtain rfl := Option.some.inj e2
    obtain rfl := tx_inj (PyData.str.inj e3)
    rw [hr] at hr'
    obtain rfl := Option.some.inj hr'
    exact q H' u sm ra
  · have : i = i' := by have := PyData.int.inj e1; omega
    subst this
    rw [hS] at e2
    obtain rfl := Option.some.inj e2
    rw [sgnB_tx hc] at e3
    cases e3
  · rw [bel_ok il] at e
    cases e
theorem row_text (sa : StnA C H s t) (tok : t.ok) (hS : t.stgs[i]? = some S) {dg : PyData} (tg : Tv p H g dg) (sh : shortD dg) (h : sgnB S.reads.s.length dg = false) (e : ivE CT E H g) : spRowX C CE CT [s, .int (i : Nat), g] H Q E := by
  have il := lt_len hS
  refine ⟨p, s, _, g, t, .int (i : Nat), dg, rfl, sa, tok, .int _, tg, sh, fun i' S' c' e1 e2 e3 hl H' r' u sm hr' ra => ?_, fun i' S' e1 e2 e3 => e, fun e => ?_⟩
  · have : i = i' := by have := PyData.int.inj e1; omega
    subst this
    rw [hS] at e2
    obtain rfl := Option.some.inj e2
    rw [e3, sgnB_tx hl] at h
    cases h
  · rw [bel_ok il] at e
    cases e
theorem row_stand (sa : StnA C H s t) (tok : t.ok) {v : V} {d : PyData} (tv : Tv p H v d) (h : belD t.stgs.length d = false) (e : ivE CE E H v) : spRowX C CE CT [s, v, .non] H Q E := by
  refine ⟨p, s, v, .non, t, d, .none, rfl, sa, tok, tv, .non, trivial, fun i' S' c' e1 e2 e3 hl H' r' u sm hr' ra => (nomatch e3), fun i' S' e1 e2 e3 => ?_, fun _ => e⟩
  rw [e1, bel_ok (lt_len e2)] at h
  cases h
theorem reads_stand (sa : StnA C H s t) (tok : t.ok) {v : V} {d : PyData} (tv : Tv p H v d) (h : belD t.stgs.length d = false) (e : ivE CE E H v) : spReadsX C CE [s, v] H Q E := by
  have m := tok.m2
  refine ⟨p, s, v, t, d, rfl, sa, by omega, tv, fun i' S' e1 e2 => ?_, fun _ => e⟩
  rw [e1, bel_ok (lt_len e2)] at h
  cases h
theorem reads_q (sa : StnA C H s t) (tok : t.ok) (hS : t.stgs[i]? = some S) (q : Q (.str S.reads.s) H) : spReadsX C CE [s, .int (i : Nat)] H Q E := by
  have m := tok.m2
  refine ⟨0, s, _, t, .int (i : Nat), rfl, sa, by omega, .int _, fun i' S' e1 e2 => ?_, fun e => ?_⟩
  · have : i = i' := by have := PyData.int.inj e1; omega
    subst this
    rw [hS] at e2
    obtain rfl := Option.some.inj e2
    exact q
  · rw [bel_ok (lt_len hS)] at e
    cases e
end
theorem atI_m1 {xs : List V} {x : V} (h : xs[xs.length - 1]? = some x) : atI xs (-1) = some x := by
  have l := (List.getElem?_eq_some_iff.mp h).1
  unfold atI ixN
  rw [if_neg (by decide), if_pos (by omega)]
  show xs[((-1 : Int) + (xs.length : Int)).toNat]? = some x
  rw [show ((-1 : Int) + (xs.length : Int)).toNat = xs.length - 1 by omega]
  exact h
def spRowsR (C Pt Pb : Addr) : Sp := fun vs H Q _ => ∃ (p m : Addr) (v : V) (t : Stn), vs = [.ref m, v] ∧ Pot p H ∧ StnA C H (.ref m) t ∧ Tv p H v (stD t) ∧ t.ok ∧ LamX.Tabs (TTb Pt Pb) H ∧ ∀ H', LamX.ExtN H H' → LamX.Tabs (TTb Pt Pb) H' → Q (.bl true) H'
section
variable {P : Program} {w : World} {K : PySem.W.Frag} {mg : Str → Option Value} {base : Heap} {aS a1 a2 aL aT : Addr} {f : Addr} {fd : FuncData} {C CD CY CF CI CO CS CT c Pt Pb g : Addr} {fdg : FuncData} {mc : Value}
abbrev s_law_rows_right : Stmt := top 39
abbrev N_law_rows_right : List Str := ["_law_made_here", "_law_model_here", "_law_many", "_law_at", "_law_told", "_law_rows", "_law_heard_now", "_law_odd", "_law_heard_here", "_law_text_here"]
theorem sc_law_rows_right : FnScope N_law_rows_right ["_law_made_here", "_law_model_here"] (defScope s_law_rows_right) := ⟨rfl, rfl, rfl, by decide +kernel, rfl, by decide +kernel, by decide +kernel⟩
theorem ok_law_rows_right (F : Fun K "_law_rows_right" "_law_rows_right" s_law_rows_right f fd) (hcw : fd.code = .ref c) (T : Txt K mg aS a1 a2) (N : HdA5 K mg CF CI CO CS CD CT) (ks : ∃ o, K.lookup sysModules = some o) (hV : mg "ValueError" = none) (TBw : LamX.TabB base mg c Pb) (nTB : Pt ≠ Pb) (FH : Fun K "_law_heard" "_law_heard" s_law_heard g fdg) (mH : mg "_law_heard" = some (.ref g)) (bH : Binds K fdg ["_law_call"] []) (mx_Station_row : MetX P w K mg base 5 C "row" (spRowX C CD CT)) (mx_Station_reads : MetX P w K mg base 5 C "reads" (spReadsX C CD)) (mk_Station_reads_standing : MetXK P w K mg base 5 C "reads" (spReadsX C CD) ["standing"] [0, 1]) (mk_Station_row_signs_standing : MetXK P w K mg base 5 C "row" (spRowX C CD CT) ["signs", "standing"] [0, 2, 1]) : FnG P w K mg base 12 f fd ["_law_made_here", "_law_model_here"] (spRowsR C Pt Pb) := by
  refine fnGC_of F hcw sc_law_rows_right (fun vs H Q E h => ?_) (fun A0 outer s0 H vs Q E hgd hr h => ?_)
  · obtain ⟨p, m, v, t, rfl, _⟩ := h
    rfl
  obtain ⟨p, m, v, t, rfl, p0, sa, tv0, tok, tb0, q⟩ := h
  refine ⟨_, (pss_cons (ps_set (i := 2) sc_law_rows_right.nd rfl (Or.inl rfl) (pe_callB (kLen K rfl) rfl T.b_len bt_len (pa_cons (pe_ix (kIxT K rfl) (pv 1) pe_int (fun _ _ => rfl)) pa_nil)))
        (pss_cons (ps_for PassesOwn.never rfl (kEnum K rfl rfl T.b_enumerate (pa_cons (pe_ix (kIxT K rfl) (pv 1) pe_int (fun _ _ => rfl)) pa_nil)) (kTupG (n := 2) K rfl rfl (pgs_cons (pg_name (i := 3) sc_law_rows_right.nd rfl (Or.inr rfl)) (pgs_cons (kTupG (n := 2) K rfl rfl (pgs_cons (pg_name (i := 4) sc_law_rows_right.nd rfl (Or.inl rfl)) (pgs_cons (pg_name (i := 5) sc_law_rows_right.nd rfl (Or.inl rfl)) pgs_nil))) pgs_nil)))
        (pss_cons (ps_set (i := 6) sc_law_rows_right.nd rfl (Or.inl rfl) (pe_ifExp (pt_cmpR op_eq (pe_callB call_len_str rfl T.b_len bt_len (pa_cons (pv 4) pa_nil)) pe_int (nomark _)) (pe_lst (pa_cons pe_str (pa_cons pe_str pa_nil))) (pe_lst (pa_cons pe_str (pa_cons pe_str (pa_cons pe_str (pa_cons pe_str pa_nil)))))))
        (pss_cons (ps_if (PW.pt (pw_or (pt_cmpR (kNeD K rfl hr.units) (pe_lc (own := [("_law_text_here", 9)]) rfl sc_law_rows_right.nd (kList K rfl (pv 6)) (blkOk_by (N := N_law_rows_right) (sc := defScope s_law_rows_right) (by decide +kernel)) (fun _ _ _ _ _ => (pg_name (i := 9) sc_law_rows_right.nd rfl (Or.inl rfl))) (fun _ _ _ _ _ => pts_nil) (fun _ _ _ _ _ => (pe_mtX mx_Station_row hr (by decide) passF (pv 0) (pa_cons (pv 3) (pa_cons (pv 9) pa_nil))))) (pv 5) (nomark _)) (pw_or1 (pt_cmpR op_ne (pe_mtXK mk_Station_reads_standing hr (by decide) passF (pv 0) (pk_cons (pv 3) pk_nil)) (pv 4) (nomark _)))))
        (pss_one (ps_ret pe_bl))
        pss_nil)
        (pss_cons (ps_if (pt_cmpR (kNeD K rfl hr.units) (pe_mtXK mk_Station_row_signs_standing hr (by decide) passF (pv 0) (pk_cons (pe_ix (kIxL K rfl) (pv 6) (pe_un un_neg pe_int) (fun _ _ => rfl)) (pk_cons (pv 3) pk_nil))) (pe_ix (kIxL K rfl) (pv 5) (pe_un un_neg pe_int) (fun _ _ => rfl)) (nomark _))
        (pss_one (ps_ret pe_bl))
        pss_nil)
        (pss_one (ps_for PassesOwn.never rfl (kList K rfl (pe_lst (pa_cons pe_non (pa_cons pe_str (pa_cons pe_int (pa_cons pe_str (pa_cons pe_str (pa_cons (pe_lst (pa_cons pe_str pa_nil)) (pa_cons (pe_tup (pa_cons pe_str (pa_cons pe_str pa_nil))) (pa_cons pe_bl (pa_cons (pe_op op_mul_str pe_str (pe_op op_sub pe_int (pe_callB call_len_str rfl T.b_len bt_len (pa_cons (pv 4) pa_nil)))) (pa_cons (pe_op op_mul_str pe_str (pe_op op_sub pe_int (pe_callB call_len_str rfl T.b_len bt_len (pa_cons (pv 4) pa_nil)))) pa_nil)))))))))))) (pg_name (i := 7) sc_law_rows_right.nd rfl (Or.inr rfl))
        (pss_one (ps_if (pt_cmpR (kNeD K rfl hr.units) (lam_heard (TS := TTb Pt Pb) FH mH bH T N ks hV TBw rfl (List.mem_cons_of_mem _ List.mem_cons_self) (huB nTB) hgd hr rfl (sc := defScope s_law_rows_right) rfl (fun _ _ _ _ E _ _ hr => (pe_mtX mx_Station_row hr (by decide) (passes_call (takes_of rfl rfl rfl rfl) (fun _ _ _ _ h => h)) (pv 0) (pa_cons (pv 3) (pa_cons (pv 7) pa_nil))))) (pe_lst (pa_cons pe_str (pa_cons (pe_callB (kReprT K w rfl rfl ks hgd hr) rfl T.b_repr bt_repr (pa_cons (pv 7) pa_nil)) (pa_cons pe_bl pa_nil)))) (nomark _))
        (pss_one (ps_ret pe_bl))
        pss_nil))))))))
        (pss_cons (ps_for PassesOwn.never rfl (kList K rfl (pe_lst (pa_cons pe_non (pa_cons (pv 2) (pa_cons (pe_un un_neg pe_int) (pa_cons pe_bl (pa_cons pe_bl (pa_cons pe_str (pa_cons (pe_tup (pa_cons pe_int pa_nil)) (pa_cons (pe_lst (pa_cons pe_int pa_nil)) (pa_cons pe_dnewK (pa_cons (pe_op op_pow pe_int pe_int) pa_nil)))))))))))) (pg_name (i := 7) sc_law_rows_right.nd rfl (Or.inr rfl))
        (pss_cons (ps_set (i := 8) sc_law_rows_right.nd rfl (Or.inl rfl) (pe_lst (pa_cons (lam_heard (TS := TTb Pt Pb) FH mH bH T N ks hV TBw rfl (List.mem_cons_of_mem _ List.mem_cons_self) (huB nTB) hgd hr rfl (sc := defScope s_law_rows_right) rfl (fun _ _ _ _ E _ _ hr => (pe_mtX mx_Station_reads hr (by decide) (passes_call (takes_of rfl rfl rfl rfl) (fun _ _ _ _ h => h)) (pv 0) (pa_cons (pv 7) pa_nil)))) pa_nil)))
        (pss_cons (ps_expr (kBm K rfl PySem.F.plainAttrs_list PySem.F.slot_list_append PySem.F.type_list_append mt_append (pv 8) (pa_cons (lam_heard (TS := TTb Pt Pb) FH mH bH T N ks hV TBw rfl (List.mem_cons_of_mem _ List.mem_cons_self) (huB nTB) hgd hr rfl (sc := defScope s_law_rows_right) rfl (fun _ _ _ _ E _ _ hr => (pe_mtX mx_Station_row hr (by decide) (passes_call (takes_of rfl rfl rfl rfl) (fun _ _ _ _ h => h)) (pv 0) (pa_cons (pv 7) (pa_cons pe_non pa_nil))))) pa_nil)))
        (pss_one (ps_if (pt_cmpR (kNeD K rfl hr.units) (pv 8) (pe_op op_rep (pe_lst (pa_cons (pe_lst (pa_cons pe_str (pa_cons (pe_callB (kReprT K w rfl rfl ks hgd hr) rfl T.b_repr bt_repr (pa_cons (pv 7) pa_nil)) (pa_cons pe_bl pa_nil)))) pa_nil)) pe_int) (nomark _))
        (pss_one (ps_ret pe_bl))
        pss_nil)))))
        (pss_one (ps_ret pe_bl))))), ?_⟩
  obtain ⟨a, F0, us, rfl, na, ha, nF, hF, hus⟩ := st_tv tv0
  have lus := hus.len
  rw [List.length_map] at lus
  have m1 := tok.m1
  have m4 := tok.m2
  refine seq_split (fun τ G => τ = [some (.ref m), some (.ref a), some (.int (t.stgs.length : Nat)), none, none, none, none, none, none, none] ∧ H = G) (fun D1 hD1 => ⟨_, rfl, _, _, _, _, rfl, rfl, SqT.of ha, atI_nat (j := 2) rfl, F0, us, rfl, .inl (SqL.of hF), by rw [lus]; exact hD1 _ _ ⟨rfl, rfl⟩⟩) ?_
  rintro τ G ⟨rfl, rfl⟩
  refine seq_splitR (fun τ G => ∃ x3 x4 x5 x6 x7, τ = [some (.ref m), some (.ref a), some (.int (t.stgs.length : Nat)), x3, x4, x5, x6, x7, none, none] ∧ LamX.ExtN H G ∧ LamX.Tabs (TTb Pt Pb) G) (fun D1 hrt hD1 => ?_) ?_
  · refine ⟨_, rfl, _, _, _, _, rfl, rfl, SqT.of ha, atI_nat (j := 2) rfl, F0, us, rfl, SqL.of hF, for_it (D := D1) walk_enum (fun i τ G => ∃ x3 x4 x5 x6 x7, τ = [some (.ref m), some (.ref a), some (.int (t.stgs.length : Nat)), x3, x4, x5, x6, x7, none, none] ∧ LamX.ExtN H G ∧ LamX.Tabs (TTb Pt Pb) G) ⟨_, _, _, _, _, rfl, fun _ _ e _ => e, tb0⟩ (fun i τ G _ ⟨_, _, _, _, _, _, e, _⟩ => SqL.of (ExtN_lst e hF)) ?_ ?_⟩
    · rintro i x τ G0 G1 hi ⟨x3, x4, x5, x6, x7, rfl, eG, tbG⟩ ⟨T0, p1, p2, rfl, hT0, rfl, hp1, hp2⟩
      obtain rfl := Option.some.inj hp1
      have husG := hus.ext eG
      obtain ⟨d, hd, tve⟩ := husG.at hp2
      obtain ⟨S, hS, rfl⟩ := List.getElem?_map_some hd
      obtain ⟨e, qq, ws, rfl, ne, he, nq, hq, hws⟩ := to_tv tve
      have sok := tok.sg S (List.mem_of_getElem? hS)
      obtain ⟨k1, k2, k3⟩ := id sok
      have il := lt_len hS
      have n0 := same_new hT0 (.tup [V.int (i : Nat), .ref e])
      refine ⟨_, _, rfl, SqT.of upd_same, rfl, _, _, rfl, _, _, rfl, _, _, rfl, SqT.of (n0 _ _ he), rfl, _, _, rfl, _, _, rfl, rfl, rfl, ?_⟩
      have e0 := eG.trans (ext_of n0)
      have tb0' := tbG.ext n0
      have hq0 := n0 _ _ hq
      have hws0 := hws.same n0
      generalize upd G0 T0 (.tup [V.int (i : Nat), .ref e]) = G2 at *
      clear n0 he hq hws tve husG hT0
      have lws : ws.length = S.reads.many := by rw [hws0.len, List.length_map, k2]
      have l12 : S.reads.s.length = 1 ∨ S.reads.s.length = 2 := by cases S.reads <;> decide +kernel
      have sa0 := sa.ext e0
      have rn := rows_nice sok (by have := tok.o2; omega) (by omega)
      have nl := nice_lst (n := 2) (w := 24) (m := 4) rn.1 rn.2
      -- what is heard
      refine seq_splitR (fun τ G => ∃ L : Addr, τ = [some (.ref m), some (.ref a), some (.int (t.stgs.length : Nat)), some (.int (i : Nat)), some (.str S.reads.s), some (.ref qq), some (.ref L), x7, none, none] ∧ Same G2 G ∧ G L = some (.lst ((sgs S.reads).map fun b => V.str (tx b)))) (fun D2 hrt2 hD2 => ?_) ?_
      · refine ⟨_, rfl, _, rfl, Nat.le_trans (show S.reads.s.length ≤ 2 by omega) (by decide), rfl, _, rfl, ?_⟩
        by_cases lb : S.reads = .both
        · have l2 : S.reads.s.length = 2 := by rw [lb]; decide +kernel
          refine iteFd (by rw [l2]; decide +kernel) ⟨sz rfl, fun L hL => ?_⟩
          refine hD2 _ _ ⟨L, rfl, same_new hL _, upd_same.trans ?_⟩
          rw [lb]
          exact congrArg (fun z => some (HO.lst z)) (by decide +kernel)
        · have l1 : S.reads.s.length = 1 := by
            cases hrd : S.reads with
            | both => exact absurd hrd lb
            | one => decide +kernel
            | two => decide +kernel
          refine iteTd (by rw [l1]; decide +kernel) ⟨sz rfl, fun L hL => ?_⟩
          refine hD2 _ _ ⟨L, rfl, same_new hL _, upd_same.trans ?_⟩
          have : sgs S.reads = [[false], [true]] := by
            cases hrd : S.reads with
            | both => exact absurd hrd lb
            | one => rfl
            | two => rfl
          rw [this]
          exact congrArg (fun z => some (HO.lst z)) (by decide +kernel)
      rintro τ G3 ⟨L, rfl, s3, hL⟩
      have sa3 := sa0.ext (ext_of s3)
      -- the rows
      refine seq_splitR (fun τ G => τ = [some (.ref m), some (.ref a), some (.int (t.stgs.length : Nat)), some (.int (i : Nat)), some (.str S.reads.s), some (.ref qq), some (.ref L), x7, none, none] ∧ Same G3 G) (fun D2 hrt2 hD2 => ?_) ?_
      · refine ⟨_, rfl, L, rfl, ⟨_, SqL.of hL⟩, fun D hD => lc_it walk_list (fun j G => Same G3 G ∧ ∃ vs, G D = some (.lst vs) ∧ Paired (RwA G) vs (S.rows.take j)) ⟨same_new hD _, [], upd_same, .nil⟩ (fun j G _ z => SqL.of (z.1 _ _ hL)) ?_ ?_⟩
        · rintro j x G4 G5 hj ⟨sm, vs, hd', pv'⟩ ⟨rfl, hx⟩
          obtain ⟨cc, hcc, rfl⟩ := List.getElem?_map_some hx
          obtain ⟨vb, lc⟩ := sgs_at _ _ _ hcc
          have jl := lt_len hcc
          rw [sgs_len, ← k2] at jl
          have hr' := List.getElem?_eq_getElem jl
          have sa4 := sa3.ext (ext_of sm)
          obtain ⟨m', dx, p', ps, em, h1, h2, h3⟩ := id sa4
          cases em
          have lvs := paired_len pv'
          refine ⟨rfl, tyI ⟨_, rfl, _, dx, _, rfl, h1, rfl, _, rfl, _, rfl, row_q sa4 tok hS lc (by rw [vb]; exact hr') fun H6 u s6 ra => ⟨_, s6 _ _ hd', ?_, same_at (sm.trans' s6) hD, _, upd_same, ?_⟩⟩⟩
          · rw [lvs, List.length_take]
            exact Nat.lt_of_lt_of_le (show _ < 100000 by have : S.reads.many ≤ 4 := by { cases S.reads <;> decide }; omega) (by decide)
          · have tu := tups_at (s6 _ _ hd') (o := .lst (vs ++ [u]))
            rw [List.take_add_one, hr']
            exact paired_app (rwA_all ((Tups.of s6).trans tu) pv') (.cons (ra.keep tu) .nil)
        rintro G4 ⟨s4, vs, hd', pv'⟩
        rw [List.length_map, sgs_len, ← k2, List.take_length] at pv'
        have dq : ∀ {G : Hp}, Same G2 G → Dp K G (.ref qq) (.list (S.rows.map rwD)) := fun sm => .lst (SqL.of (sm _ _ hq0)) (dpall (fun _ _ r => RwA.dp r) (rwA_tvs (hws0.same sm)))
        refine ⟨_, rfl, _, _, .lst (SqL.of hd') (dpall (fun _ _ r => RwA.dp r) pv'), dq (s3.trans' s4), nl.shp (by decide), nl.shp (by decide), _, rfl, iteFd (neD (eqv_dec nl.lay)) ?_⟩
        have sa4 := sa3.ext (ext_of s4)
        obtain ⟨m', dx, p', ps, em, h1, h2, h3⟩ := id sa4
        cases em
        refine ⟨_, rfl, _, dx, _, rfl, h1, rfl, _, rfl, rfl, reads_q sa4 tok hS ⟨_, rfl, rfl, _, rfl, iteFd (by simp) ?_⟩⟩
        exact hD2 _ _ ⟨rfl, s4⟩
      rintro τ G4 ⟨rfl, s4⟩
      have s24 := s3.trans' s4
      have mr1 : 2 ≤ S.reads.many := by cases S.reads <;> decide
      -- by names
      refine seq_splitR (fun τ G => τ = [some (.ref m), some (.ref a), some (.int (t.stgs.length : Nat)), some (.int (i : Nat)), some (.str S.reads.s), some (.ref qq), some (.ref L), x7, none, none] ∧ Same G4 G) (fun D2 hrt2 hD2 => ?_) ?_
      · have sa4 := sa3.ext (ext_of s4)
        obtain ⟨m', dx, p', ps, em, h1, h2, h3⟩ := id sa4
        cases em
        have ll : (sgs S.reads).length - 1 < (sgs S.reads).length := by rw [sgs_len]; omega
        have hc := List.getElem?_eq_getElem ll
        generalize (sgs S.reads)[(sgs S.reads).length - 1] = cc at hc
        obtain ⟨vb, lc⟩ := sgs_at _ _ _ hc
        have lr : (sgs S.reads).length - 1 < S.rows.length := by rw [sgs_len, k2]; omega
        have hr' := List.getElem?_eq_getElem lr
        generalize S.rows[(sgs S.reads).length - 1] = r at hr'
        obtain ⟨u, hu, tvu⟩ := (hws0.same s24).get (i := (sgs S.reads).length - 1) (d := rwD r) (by rw [List.getElem?_map, hr']; rfl)
        have nr := rw_nice (k3 r (List.mem_of_getElem? hr')) (by have := tok.o2; omega) (by omega)
        refine ⟨_, rfl, _, dx, _, rfl, h1, rfl, _, rfl, _, rfl, _, _, _, _, rfl, rfl, SqL.of (s4 _ _ hL), atI_m1 (by rw [List.length_map, List.getElem?_map, hc]; rfl), _, rfl, rfl, row_q sa4 tok hS lc (by rw [vb]; exact hr') fun H6 u' s6 ra => ?_⟩
        refine ⟨_, rfl, _, rfl, _, _, _, _, rfl, rfl, SqL.of (s6 _ _ (s24 _ _ hq0)), atI_m1 (by rw [lws, ← sgs_len]; exact hu), ?_⟩
        exact ⟨_, _, ra.dp, (rwA_tv (tvu.same s6)).dp, nr.shp (by decide), nr.shp (by decide), _, rfl, iteFd (neD (eqv_dec nr.lay)) (hD2 _ _ ⟨rfl, s6⟩)⟩
      rintro τ G5 ⟨rfl, s5⟩
      have s25 := s24.trans' s5
      have sa5 := sa0.ext (ext_of s25)
      have tb5 := tb0'.ext s25
      have p5 := ExtN_pot e0 (p0) |>.same s25
      -- texts that are none
      have mk : ∀ z : Str, z = "0" ∨ z = "1" → MulOk z ((3 : Int) - (S.reads.s.length : Int)) ∧ sgnB S.reads.s.length (.str (Txt.mul z ((3 : Int) - (S.reads.s.length : Int)))) = false ∧ shortB (.str (Txt.mul z ((3 : Int) - (S.reads.s.length : Int)))) = true ∧ rpB (.str (Txt.mul z ((3 : Int) - (S.reads.s.length : Int)))) = true := fun z hz => by
        rcases hz with rfl | rfl <;> rcases l12 with h | h <;> rw [h] <;> exact ⟨by unfold MulOk; decide, by decide +kernel, by decide +kernel, by decide +kernel⟩
      obtain ⟨q1, q2, q3, q4⟩ := mk "0" (.inl rfl)
      obtain ⟨r1, r2, r3, r4⟩ := mk "1" (.inr rfl)
      have szn : S.reads.s.length ≤ sizeLine := Nat.le_trans (show S.reads.s.length ≤ 2 by omega) (by decide)
      refine ⟨sz rfl, fun T1 hT1 => ⟨sz rfl, fun T2 hT2 => ⟨_, rfl, _, rfl, szn, _, _, rfl, rfl, _, _, rfl, rfl, q1, _, rfl, _, rfl, szn, _, _, rfl, rfl, _, _, rfl, rfl, r1, sz rfl, fun Lo hLo => ?_⟩⟩⟩
      have j1 := same_new hT1 (.lst [V.str "0"])
      have j2 := same_new hT2 (.tup [V.str "0", .str "1"])
      have j3 := same_new hLo (.lst [V.non, .str "", .int 0, .str "2", .str "000", .ref T1, .ref T2, .bl true, .str (Txt.mul "0" ((3 : Int) - (S.reads.s.length : Int))), .str (Txt.mul "1" ((3 : Int) - (S.reads.s.length : Int)))])
      have j13 := (j1.trans' j2).trans' j3
      have vals : ∀ x ∈ [V.non, .str "", .int 0, .str "2", .str "000", .ref T1, .ref T2, .bl true, .str (Txt.mul "0" ((3 : Int) - (S.reads.s.length : Int))), .str (Txt.mul "1" ((3 : Int) - (S.reads.s.length : Int)))], ∃ d, Tv p (upd (upd (upd G5 T1 (.lst [V.str "0"])) T2 (.tup [V.str "0", .str "1"])) Lo (.lst [V.non, .str "", .int 0, .str "2", .str "000", .ref T1, .ref T2, .bl true, .str (Txt.mul "0" ((3 : Int) - (S.reads.s.length : Int))), .str (Txt.mul "1" ((3 : Int) - (S.reads.s.length : Int)))])) x d ∧ sgnB S.reads.s.length d = false ∧ shortD d ∧ rpB d = true := fun x hx => by
        simp only [List.mem_cons, List.not_mem_nil, or_false] at hx
        have cs : ∀ d : PyData, (sgnB 1 d = false ∧ sgnB 2 d = false) → sgnB S.reads.s.length d = false := fun d hd => l12.elim (fun h => by rw [h]; exact hd.1) (fun h => by rw [h]; exact hd.2)
        rcases hx with rfl | rfl | rfl | rfl | rfl | rfl | rfl | rfl | rfl | rfl
        · exact ⟨_, .non, rfl, trivial, by decide +kernel⟩
        · exact ⟨_, .str _, cs _ (by decide +kernel), shB (by decide +kernel), by decide +kernel⟩
        · exact ⟨_, .int _, rfl, trivial, by decide +kernel⟩
        · exact ⟨_, .str _, cs _ (by decide +kernel), shB (by decide +kernel), by decide +kernel⟩
        · exact ⟨_, .str _, cs _ (by decide +kernel), shB (by decide +kernel), by decide +kernel⟩
        · exact ⟨.list [.str "0"], .lst (p5.ne hT1) (j3 _ _ (j2 _ _ upd_same)) (.cons (.str _) .nil), rfl, trivial, by decide +kernel⟩
        · exact ⟨.tuple [.str "0", .str "1"], .tup ((p5.same j1).ne hT2) (j3 _ _ upd_same) (.cons (.str _) (.cons (.str _) .nil)), rfl, trivial, by decide +kernel⟩
        · exact ⟨_, .bl _, rfl, trivial, by decide +kernel⟩
        · exact ⟨_, .str _, q2, shB q3, q4⟩
        · exact ⟨_, .str _, r2, shB r3, r4⟩
      generalize [V.non, .str "", .int 0, .str "2", .str "000", .ref T1, .ref T2, .bl true, .str (Txt.mul "0" ((3 : Int) - (S.reads.s.length : Int))), .str (Txt.mul "1" ((3 : Int) - (S.reads.s.length : Int)))] = xs at *
      have eL := e0.trans (ext_of (s25.trans' j13))
      refine ⟨Lo, rfl, ⟨xs, SqL.of upd_same⟩, for_it walk_list (fun j τ G => ∃ x7, τ = [some (.ref m), some (.ref a), some (.int (t.stgs.length : Nat)), some (.int (i : Nat)), some (.str S.reads.s), some (.ref qq), some (.ref L), x7, none, none] ∧ LamX.ExtN H G ∧ LamX.Tabs (TTb Pt Pb) G ∧ G Lo = some (.lst xs) ∧ ∀ x ∈ xs, ∃ d, Tv p G x d ∧ sgnB S.reads.s.length d = false ∧ shortD d ∧ rpB d = true) ⟨_, rfl, eL, ((tb5.ext j1).ext j2).ext j3, upd_same, vals⟩ (fun j τ G _ ⟨_, _, _, _, e, _⟩ => SqL.of e) ?_ ?_⟩
      · rintro j x τ G6 G7 hj ⟨x7, rfl, eG6, tb6, hLG, vG⟩ ⟨rfl, hx⟩
        obtain ⟨d, tvx, od1, od2, od3⟩ := vG x (List.mem_of_getElem? hx)
        have rp := rpB_of od3 tvx
        have dok := rpB_ok od3
        refine ⟨tb6, fun H3 e3 tb3 => heardS (nm := "text") (s := d.shown) (fun G Q1 Q' sG hq => ?_) (fun H4 L' s4' nL hL' => ?_)⟩
        · have saG := (sa.ext (eG6.trans e3)).ext (ext_of sG)
          obtain ⟨m', dx, p', ps, em, h1, h2, h3⟩ := id saG
          cases em
          exact ⟨_, rfl, _, dx, _, rfl, h1, rfl, _, rfl, _, rfl, row_text saG tok hS ((tvx.ext e3).same sG) od2 od1 (ivH .kT ((rp.ext e3).same sG) hq)⟩
        have e4 := e3.trans (ext_of s4')
        refine ⟨_, rfl, ?_⟩
        dsimp only [tNil]
        refine rpB_q od3 (tvx.ext e4) ⟨sz rfl, fun M hM => ?_⟩
        have k3 := same_new hM (.lst [V.str "text", .str d.shown, .bl true])
        have e5 := e4.trans (ext_of k3)
        have okT : PyData.strOk "text" = true := by decide +kernel
        refine ⟨toldD "text" d.shown, toldD "text" d.shown, ToldH.dp ⟨L', rfl, k3 _ _ hL'⟩, ToldH.dp ⟨M, rfl, upd_same⟩, told_shp okT dok, told_shp okT dok, _, rfl, iteFd (neD (eqv_told _ _)) ?_⟩
        exact ⟨_, rfl, eG6.trans e5, (tb3.ext s4').ext k3, ExtN_lst e5 hLG, fun x hx => let ⟨d, h1, h2, h3, h4⟩ := vG x hx; ⟨d, h1.ext e5, h2, h3, h4⟩⟩
      rintro τ G ⟨x7, rfl, eG6, tb6, _⟩
      exact ⟨_, _, _, _, _, rfl, eG6, tb6⟩
    rintro τ G ⟨x3, x4, x5, x6, x7, rfl, eG, tbG⟩
    exact hD1 _ _ ⟨x3, x4, x5, x6, x7, rfl, eG, tbG⟩
  rintro τ H1 ⟨x3, x4, x5, x6, x7, rfl, e1, tb1⟩
  have p1 := ExtN_pot e1 p0
  -- standings that are none
  refine seq_splitR (fun τ G => ∃ x7 x8, τ = [some (.ref m), some (.ref a), some (.int (t.stgs.length : Nat)), x3, x4, x5, x6, x7, x8, none] ∧ LamX.ExtN H G ∧ LamX.Tabs (TTb Pt Pb) G) (fun D1 hrt hD1 => ?_) ?_
  · refine ⟨_, rfl, _, rfl, sz rfl, fun T1 hT1 => ⟨sz rfl, fun T2 hT2 => fun T3 hT3 => ⟨_, _, rfl, rfl, ⟨by decide, by decide, by decide⟩, sz rfl, fun Lo hLo => ?_⟩⟩⟩
    have j1 := same_new hT1 (.tup [V.int 0])
    have j2 := same_new hT2 (.lst [V.int 0])
    have j3 := same_new hT3 (.dK [])
    have j4 := same_new hLo (.lst [V.non, .int (t.stgs.length : Nat), .int (-1), .bl true, .bl false, .str "0", .ref T1, .ref T2, .ref T3, .int (10 ^ (29 : Int).toNat)])
    have j14 := ((j1.trans' j2).trans' j3).trans' j4
    have vals : ∀ x ∈ [V.non, .int (t.stgs.length : Nat), .int (-1), .bl true, .bl false, .str "0", .ref T1, .ref T2, .ref T3, .int (10 ^ (29 : Int).toNat)], ∃ d, Tv p (upd (upd (upd (upd H1 T1 (.tup [V.int 0])) T2 (.lst [V.int 0])) T3 (.dK [])) Lo (.lst [V.non, .int (t.stgs.length : Nat), .int (-1), .bl true, .bl false, .str "0", .ref T1, .ref T2, .ref T3, .int (10 ^ (29 : Int).toNat)])) x d ∧ belD t.stgs.length d = false ∧ rpB d = true := fun x hx => by
      simp only [List.mem_cons, List.not_mem_nil, or_false] at hx
      rcases hx with rfl | rfl | rfl | rfl | rfl | rfl | rfl | rfl | rfl | rfl
      · exact ⟨_, .non, rfl, by decide +kernel⟩
      · refine ⟨_, .int _, ?_, ?_⟩
        · show (decide (0 ≤ ((t.stgs.length : Nat) : Int)) && decide (((t.stgs.length : Nat) : Int) < ((t.stgs.length : Nat) : Int))) = false
          rw [decide_eq_false (Int.lt_irrefl _), Bool.and_false]
        · have : ∀ k : Fin 5, rpB (.int ((k.val : Nat) : Int)) = true := by decide +kernel
          exact this ⟨t.stgs.length, by omega⟩
      · exact ⟨_, .int _, rfl, by decide +kernel⟩
      · exact ⟨_, .bl _, rfl, by decide +kernel⟩
      · exact ⟨_, .bl _, rfl, by decide +kernel⟩
      · exact ⟨_, .str _, rfl, by decide +kernel⟩
      · exact ⟨.tuple [.int 0], .tup (p1.ne hT1) (j4 _ _ (j3 _ _ (j2 _ _ upd_same))) (.cons (.int _) .nil), rfl, by decide +kernel⟩
      · exact ⟨.list [.int 0], .lst ((p1.same j1).ne hT2) (j4 _ _ (j3 _ _ upd_same)) (.cons (.int _) .nil), rfl, by decide +kernel⟩
      · exact ⟨.dict [], .dic ((p1.same (j1.trans' j2)).ne hT3) (j4 _ _ upd_same), rfl, by decide +kernel⟩
      · refine ⟨_, .int _, ?_, by decide +kernel⟩
        show (decide (0 ≤ ((10 : Int) ^ (29 : Int).toNat)) && decide (((10 : Int) ^ (29 : Int).toNat) < (t.stgs.length : Int))) = false
        rw [decide_eq_false (show ¬ ((10 : Int) ^ (29 : Int).toNat) < (t.stgs.length : Int) by
          have : (5 : Int) ≤ (10 : Int) ^ (29 : Int).toNat := by decide
          omega), Bool.and_false]
    generalize [V.non, .int (t.stgs.length : Nat), .int (-1), .bl true, .bl false, .str "0", .ref T1, .ref T2, .ref T3, .int (10 ^ (29 : Int).toNat)] = xs at *
    refine ⟨Lo, rfl, ⟨xs, SqL.of upd_same⟩, for_it (D := D1) walk_list (fun j τ G => ∃ x7 x8, τ = [some (.ref m), some (.ref a), some (.int (t.stgs.length : Nat)), x3, x4, x5, x6, x7, x8, none] ∧ LamX.ExtN H G ∧ LamX.Tabs (TTb Pt Pb) G ∧ G Lo = some (.lst xs) ∧ ∀ x ∈ xs, ∃ d, Tv p G x d ∧ belD t.stgs.length d = false ∧ rpB d = true) ⟨_, _, rfl, e1.trans (ext_of j14), (((tb1.ext j1).ext j2).ext j3).ext j4, upd_same, vals⟩ (fun j τ G _ ⟨_, _, _, _, _, e, _⟩ => SqL.of e) ?_ ?_⟩
    · rintro j x τ G0 G2 hj ⟨x7', x8, rfl, eG, tbG, hLG, vG⟩ ⟨rfl, hx⟩
      obtain ⟨d, tvx, od1, od2⟩ := vG x (List.mem_of_getElem? hx)
      have rp := rpB_of od2 tvx
      have dok := rpB_ok od2
      have okS : PyData.strOk "standing" = true := by decide +kernel
      have saG := sa.ext eG
      refine seq_splitR (fun τ G => ∃ (N : Addr) (vs : List V), τ = [some (.ref m), some (.ref a), some (.int (t.stgs.length : Nat)), x3, x4, x5, x6, some x, some (.ref N), none] ∧ LamX.ExtN G2 G ∧ LamX.Tabs (TTb Pt Pb) G ∧ NB G2 N ∧ G N = some (.lst vs) ∧ vs.length = 1 ∧ V.ref N ∉ vs ∧ TolA G vs [toldD "standing" d.shown]) (fun D2 hrt2 hD2 => ?_) ?_
      · refine ⟨tbG, fun H3 e3 tb3 => heardS (nm := "standing") (s := d.shown) (fun G Q1 Q' sG hq => ?_) (fun H4 L s4 nL hL => ⟨sz rfl, fun N1 hN1 => ?_⟩)⟩
        · have sa4 := (saG.ext e3).ext (ext_of sG)
          obtain ⟨m', dx, p', ps, em, h1, h2, h3⟩ := id sa4
          cases em
          exact ⟨_, rfl, _, dx, _, rfl, h1, rfl, _, rfl, reads_stand sa4 tok ((tvx.ext e3).same sG) od1 (ivH .kD ((rp.ext e3).same sG) hq)⟩
        have k3 := same_new hN1 (.lst [V.ref L])
        have e4 := e3.trans (ext_of s4)
        have nin : V.ref N1 ∉ [V.ref L] := fun m => by
          have := V.ref.inj (List.mem_singleton.mp m)
          rw [← this, hN1] at hL
          cases hL
        exact hD2 _ _ ⟨N1, _, rfl, e4.trans (ext_of k3), (tb3.ext s4).ext k3, nb_of e4 hN1, upd_same, rfl, nin, TolA.one okS dok ⟨L, rfl, k3 _ _ hL⟩⟩
      rintro τ G5 ⟨N, vs, rfl, e5, tb5, nbN, hN, lv, nin, tol⟩
      refine seq_splitR (fun τ G => ∃ (vs : List V), τ = [some (.ref m), some (.ref a), some (.int (t.stgs.length : Nat)), x3, x4, x5, x6, some x, some (.ref N), none] ∧ LamX.ExtN G2 G ∧ LamX.Tabs (TTb Pt Pb) G ∧ G N = some (.lst vs) ∧ TolA G vs [toldD "standing" d.shown, toldD "standing" d.shown]) (fun D2 hrt2 hD2 => ?_) ?_
      · refine ⟨_, rfl, .inl ⟨rfl, _, SqL.of hN⟩, tb5, fun H3 e3 tb3 => heardS (nm := "standing") (s := d.shown) (fun G Q1 Q' sG hq => ?_) (fun H4 L s4 nL hL => ?_)⟩
        · have sa4 := (saG.ext (e5.trans e3)).ext (ext_of sG)
          obtain ⟨m', dx, p', ps, em, h1, h2, h3⟩ := id sa4
          cases em
          exact ⟨_, rfl, _, dx, _, rfl, h1, rfl, _, rfl, row_stand sa4 tok ((tvx.ext (e5.trans e3)).same sG) od1 (ivH .kD ((rp.ext (e5.trans e3)).same sG) hq)⟩
        have e4 := e3.trans (ext_of s4)
        have hN2 := ExtN_lst e4 hN
        have nLN : L ≠ N := fun z => by rw [z, ExtN_lst e3 hN] at nL; cases nL
        refine ⟨N, vs, _, rfl, rfl, hN2, by rw [lv]; decide, hD2 _ _ ⟨_, rfl, ext_at (e5.trans e4) nbN, tabs_at (tb3.ext s4) (fun _ _ => trivial) ⟨_, hN2⟩, upd_same, TolA.snoc okS dok ⟨_, rfl, (upd_ne nLN).trans hL⟩ ((tol.ext e4).off nin)⟩⟩
      rintro τ G6 ⟨vs2, rfl, e6, tb6, hN6, tol2⟩
      refine ⟨_, rfl, _, rfl, ?_⟩
      dsimp only [tNil]
      refine rpB_q od2 (tvx.ext e6) ⟨sz rfl, fun M1 hM1 => ⟨sz rfl, fun M2 hM2 => ?_⟩⟩
      have k1 := same_new hM1 (.lst [V.str "standing", .str d.shown, .bl true])
      have k2 := same_new hM2 (.lst [V.ref M1])
      refine ⟨M2, 2, _, rfl, rfl, upd_same, by decide, by decide, Nat.le_trans (show 1 * 2 ≤ 2 by decide) (by decide), fun M3 hM3 => ?_⟩
      have er : (List.replicate (2 : Int).toNat [V.ref M1]).flatten = [V.ref M1, V.ref M1] := rfl
      have k3 := same_new hM3 (.lst (List.replicate (2 : Int).toNat [V.ref M1]).flatten)
      have k13 := (k1.trans' k2).trans' k3
      have tM : ∃ nm s, toldD "standing" d.shown = toldD nm s ∧ PyData.strOk nm = true ∧ PyData.strOk s = true ∧ ToldH (upd (upd (upd G6 M1 (.lst [V.str "standing", .str d.shown, .bl true])) M2 (.lst [V.ref M1])) M3 (.lst (List.replicate (2 : Int).toNat [V.ref M1]).flatten)) (.ref M1) nm s := ⟨"standing", _, rfl, okS, dok, M1, rfl, k3 _ _ (k2 _ _ upd_same)⟩
      refine told_ne (k13 _ _ hN6) (upd_same.trans (by rw [er])) (tol2.ext (ext_of k13)) (ws := [V.ref M1, V.ref M1]) ⟨tM, tM, trivial⟩ ⟨_, rfl, iteFd rfl ?_⟩
      have e7 := e6.trans (ext_of k13)
      exact ⟨_, _, rfl, eG.trans e7, ((tb6.ext k1).ext k2).ext k3, ExtN_lst e7 hLG, fun x hx => let ⟨d, h1, h2, h3⟩ := vG x hx; ⟨d, h1.ext e7, h2, h3⟩⟩
    rintro τ G ⟨x7', x8, rfl, eG, tbG, _⟩
    exact hD1 _ _ ⟨x7', x8, rfl, eG, tbG⟩
  rintro τ H2 ⟨x7', x8, rfl, e2, tb2⟩
  exact q H2 e2 tb2
end
end FY


set_option Elab.async false
set_option linter.all false
set_option maxRecDepth 100000
set_option maxHeartbeats 8000000
namespace FY
open PySem L2 FYR
/-! ## the plain questions -/
def sgnV : PyData → Bool
  | .str s => decide (s = "0") || decide (s = "1")
  | _ => false
def spIsSgnT : Sp := fun vs H Q _ => ∃ p v d, vs = [v] ∧ Tv p H v d ∧ Q (.bl (sgnV d)) H
def bsD (d : PyData) : PyData := .tuple [.bool (numD d), .bool (cntD d), .bool (sgnV d), .bool (txtD d)]
def basV : List PyData := [.none, .bool true, .bool false, .int 0, .int 1, .int (-1), .int (10 ^ (29 : Int).toNat), .str "", .str "0", .str "1", .str "01", .str "2", .str "0 ", .str " ", .tuple [], .tuple [.str "0"], .list [], .list [.str "0"], .dict [], .str "a"]
def b4 (a b c d : Bool) : PyData := .tuple [.bool a, .bool b, .bool c, .bool d]
def basD : List PyData := List.replicate 3 (b4 false false false false) ++ List.replicate 2 (b4 true true false false) ++ [b4 true false false false, b4 true true false false, b4 false false false true] ++ List.replicate 2 (b4 false false true true) ++ [b4 false false false true] ++ List.replicate 9 (b4 false false false false)
theorem bas_eq : basV.map bsD = basD := by
  unfold basV basD
  simp only [List.map_cons, List.map_nil, List.replicate, List.cons_append, List.nil_append]
  have e : ∀ d : PyData, ∀ a b c e : Bool, (numD d = a ∧ cntD d = b ∧ sgnV d = c ∧ txtD d = e) → bsD d = b4 a b c e := fun d a b c e ⟨h1, h2, h3, h4⟩ => by
    unfold bsD b4
    rw [h1, h2, h3, h4]
  rw [e .none false false false false (by decide +kernel), e (.bool true) false false false false (by decide +kernel), e (.bool false) false false false false (by decide +kernel), e (.int 0) true true false false (by decide +kernel), e (.int 1) true true false false (by decide +kernel), e (.int (-1)) true false false false (by decide +kernel), e (.int (10 ^ (29 : Int).toNat)) true true false false (by decide +kernel), e (.str "") false false false true (by decide +kernel), e (.str "0") false false true true (by decide +kernel), e (.str "1") false false true true (by decide +kernel), e (.str "01") false false false true (by decide +kernel), e (.str "2") false false false false (by decide +kernel), e (.str "0 ") false false false false (by decide +kernel), e (.str " ") false false false false (by decide +kernel), e (.tuple []) false false false false (by decide +kernel), e (.tuple [.str "0"]) false false false false (by decide +kernel), e (.list []) false false false false (by decide +kernel), e (.list [.str "0"]) false false false false (by decide +kernel), e (.dict []) false false false false (by decide +kernel), e (.str "a") false false false false (by decide +kernel)]
def spBasics : Sp := fun vs H Q _ => ∃ p : Addr, vs = [] ∧ Pot p H ∧ ∀ H', Same H H' → Q (.bl true) H'
section
variable {P : Program} {w : World} {K : PySem.W.Frag} {mg : Str → Option Value} {base : Heap} {aS a1 a2 aL aT : Addr} {f : Addr} {fd : FuncData}
theorem ok_is_signT (F : Fun K "is_sign" "is_sign" s_is_sign f fd) (T : Txt K mg aS a1 a2) : FnOk P w K mg base CX0 1 f fd ["value"] spIsSgnT := by
  refine F.ok sc_is_sign (fun vs H Q E h => ?_) (fun cdv A outer s H vs Q E hr h => ?_)
  · obtain ⟨p, v, d, rfl, _⟩ := h
    rfl
  obtain ⟨p, v, d, rfl, hv, q⟩ := h
  refine ⟨_, (pss_one (ps_ret (pe_and (pe_callB (kIsi K rfl) rfl T.b_isinstance bt_isinstance (pa_cons (pv 0) (pa_cons (pTy rfl T.b_str bt_str) pa_nil))) (pe_one (pe_cmpR (kIn K rfl) (pv 0) (C8.pe_gc rfl T.g_SIGNS) rfl))))), ?_⟩
  refine ⟨_, rfl, _, _, _, _, _, rfl, .ty _, hv.ty, kit_str d, _, rfl, ?_⟩
  cases hv with
  | str z =>
    refine iteT ⟨_, rfl, _, _, rfl, .inr (T.k_SIGNS _), rfl, rfl, ?_⟩
    have e : L2.inV (V.str z) [V.str (Str.ofString "0"), V.str (Str.ofString "1")] = (decide (z = "0") || decide (z = "1")) := by
      show ((Str.ofString "0") == z || ((Str.ofString "1") == z || false)) = _
      rw [Bool.or_false]
      have k : ∀ a b : Str, (a == b) = decide (b = a) := fun a b => by
        by_cases h : b = a
        · rw [decide_eq_true h, h]; exact beq_self_eq_true a
        · rw [decide_eq_false h]; exact beq_eq_false_iff_ne.mpr fun z => h z.symm
      rw [k, k]
    rw [e]
    exact q
  | _ => exact iteF q
abbrev s_law_basics_right : Stmt := top 42
abbrev N_law_basics_right : List Str := ["_law_some", "_law_due", "_law_told", "_law_named", "_law_thing"]
theorem sc_law_basics_right : FnScope N_law_basics_right [] (defScope s_law_basics_right) := ⟨rfl, rfl, rfl, by decide +kernel, rfl, by decide +kernel, by decide +kernel⟩
theorem ok_law_basics_right (F : Fun K "_law_basics_right" "_law_basics_right" s_law_basics_right f fd) (T : Txt K mg aS a1 a2) (ks : ∃ o, K.lookup sysModules = some o) (c_is_integerT : C8.Cal P w K mg base 1 "is_integer" spIsIntT []) (c_is_countT : C8.Cal P w K mg base 2 "is_count" spIsCntT []) (c_is_signT : C8.Cal P w K mg base 1 "is_sign" spIsSgnT []) (c_is_textT : C8.Cal P w K mg base 1 "is_text" spIsTextT []) (k_is_integer_0_value : CalN P w K mg base CX0 1 "is_integer" spIsIntT 0 ["value"] [0] []) (k_is_count_0_value : CalN P w K mg base CX0 2 "is_count" spIsCntT 0 ["value"] [0] []) (k_is_sign_0_value : CalN P w K mg base CX0 1 "is_sign" spIsSgnT 0 ["value"] [0] []) (k_is_text_0_value : CalN P w K mg base CX0 1 "is_text" spIsTextT 0 ["value"] [0] []) : FnG P w K mg base 4 f fd [] spBasics := by
  refine fnG_of F sc_law_basics_right (fun vs H Q E h => ?_) (fun cdv A outer s H vs Q E hgd hr h => ?_)
  · obtain ⟨p, rfl, _⟩ := h
    rfl
  obtain ⟨p, rfl, p0, q⟩ := h
  refine ⟨_, (pss_cons (ps_set (i := 0) sc_law_basics_right.nd rfl (Or.inl rfl) (pe_lst (pa_cons pe_non (pa_cons pe_bl (pa_cons pe_bl (pa_cons pe_int (pa_cons pe_int (pa_cons (pe_un un_neg pe_int) (pa_cons (pe_op op_pow pe_int pe_int) (pa_cons pe_str (pa_cons pe_str (pa_cons pe_str (pa_cons pe_str (pa_cons pe_str (pa_cons pe_str (pa_cons pe_str (pa_cons (pe_tup pa_nil) (pa_cons (pe_tup (pa_cons pe_str pa_nil)) (pa_cons (pe_lst pa_nil) (pa_cons (pe_lst (pa_cons pe_str pa_nil)) (pa_cons pe_dnewK (pa_cons pe_str pa_nil))))))))))))))))))))))
        (pss_cons (ps_set (i := 1) sc_law_basics_right.nd rfl (Or.inl rfl) (pe_op op_cat (pe_op op_rep (pe_lst (pa_cons (pe_tup (pa_cons pe_bl (pa_cons pe_bl (pa_cons pe_bl (pa_cons pe_bl pa_nil))))) pa_nil)) pe_int) (pe_op op_rep (pe_lst (pa_cons (pe_tup (pa_cons pe_bl (pa_cons pe_bl (pa_cons pe_bl (pa_cons pe_bl pa_nil))))) pa_nil)) pe_int)))
        (pss_cons (ps_set (i := 1) sc_law_basics_right.nd rfl (Or.inl rfl) (pe_op op_cat (pv 1) (pe_lst (pa_cons (pe_tup (pa_cons pe_bl (pa_cons pe_bl (pa_cons pe_bl (pa_cons pe_bl pa_nil))))) (pa_cons (pe_tup (pa_cons pe_bl (pa_cons pe_bl (pa_cons pe_bl (pa_cons pe_bl pa_nil))))) (pa_cons (pe_tup (pa_cons pe_bl (pa_cons pe_bl (pa_cons pe_bl (pa_cons pe_bl pa_nil))))) pa_nil))))))
        (pss_cons (ps_set (i := 1) sc_law_basics_right.nd rfl (Or.inl rfl) (pe_op op_cat (pe_op op_cat (pe_op op_cat (pv 1) (pe_op op_rep (pe_lst (pa_cons (pe_tup (pa_cons pe_bl (pa_cons pe_bl (pa_cons pe_bl (pa_cons pe_bl pa_nil))))) pa_nil)) pe_int)) (pe_lst (pa_cons (pe_tup (pa_cons pe_bl (pa_cons pe_bl (pa_cons pe_bl (pa_cons pe_bl pa_nil))))) pa_nil))) (pe_op op_rep (pe_lst (pa_cons (pe_op (kRepA K rfl) (pe_tup (pa_cons pe_bl pa_nil)) pe_int) pa_nil)) pe_int)))
        (pss_cons (ps_setLc (i := 2) (own := [("_law_thing", 4)]) rfl sc_law_basics_right.nd rfl rfl (sw_true rfl rfl rfl (by decide +kernel)) (kList K rfl (pv 0)) (blkOk_by (N := N_law_basics_right) (sc := defScope s_law_basics_right) (by decide +kernel)) (fun _ _ _ _ _ => (pg_name (i := 4) sc_law_basics_right.nd rfl (Or.inl rfl))) (fun _ _ _ _ _ => pts_nil) (fun _ _ _ _ _ => (pe_tup (pa_cons (C8.pe_c c_is_integerT hr (by decide) rfl (pa_cons (pv 4) pa_nil)) (pa_cons (C8.pe_c c_is_countT hr (by decide) rfl (pa_cons (pv 4) pa_nil)) (pa_cons (C8.pe_c c_is_signT hr (by decide) rfl (pa_cons (pv 4) pa_nil)) (pa_cons (C8.pe_c c_is_textT hr (by decide) rfl (pa_cons (pv 4) pa_nil)) pa_nil)))))))
        (pss_cons (ps_set (i := 3) sc_law_basics_right.nd rfl (Or.inl rfl) (pe_lst (pa_cons (pe_cN0 k_is_integer_0_value hr (by decide) rfl pass0 (pk_cons pe_int pk_nil)) (pa_cons (pe_cN0 k_is_count_0_value hr (by decide) rfl pass0 (pk_cons pe_int pk_nil)) (pa_cons (pe_cN0 k_is_sign_0_value hr (by decide) rfl pass0 (pk_cons pe_str pk_nil)) (pa_cons (pe_cN0 k_is_text_0_value hr (by decide) rfl pass0 (pk_cons pe_str pk_nil)) pa_nil))))))
        (pss_one (ps_ret (pe_cmpR op_eq (pe_callB (kReprT K w rfl rfl ks hgd hr) rfl T.b_repr bt_repr (pa_cons (pe_lst (pa_cons (pv 2) (pa_cons (pv 3) pa_nil))) pa_nil)) (pe_callB (kReprT K w rfl rfl ks hgd hr) rfl T.b_repr bt_repr (pa_cons (pe_lst (pa_cons (pv 1) (pa_cons (pe_op op_rep (pe_lst (pa_cons pe_bl pa_nil)) pe_int) pa_nil))) pa_nil)) (nomark _)))))))))), ?_⟩
  refine seq_split (fun τ G => ∃ (Lo : Addr) (xs : List V), τ = [some (.ref Lo), none, none, none, none] ∧ Same H G ∧ Lo ≠ p ∧ G Lo = some (.lst xs) ∧ TvAll p G xs basV) (fun D1 hD1 => ?_) ?_
  · refine ⟨_, rfl, _, _, rfl, rfl, ⟨by decide, by decide, by decide⟩, sz rfl, fun T1 hT1 => ⟨sz rfl, fun T2 hT2 => ⟨sz rfl, fun T3 hT3 => ⟨sz rfl, fun T4 hT4 => fun T5 hT5 => ?_⟩⟩⟩⟩
    refine ⟨Nat.le_trans (show (20 : Nat) ≤ 100 by decide) (by decide), fun Lo hLo => ?_⟩
    have j1 := same_new hT1 (.tup [])
    have j2 := same_new hT2 (.tup [V.str "0"])
    have j3 := same_new hT3 (.lst [])
    have j4 := same_new hT4 (.lst [V.str "0"])
    have j5 := same_new hT5 (.dK [])
    have j6 := same_new hLo (.lst [V.non, .bl true, .bl false, .int 0, .int 1, .int (-1), .int (10 ^ (29 : Int).toNat), .str "", .str "0", .str "1", .str "01", .str "2", .str "0 ", .str " ", .ref T1, .ref T2, .ref T3, .ref T4, .ref T5, .str "a"])
    have n1 := p0.ne hT1
    have n2 := (p0.same j1).ne hT2
    have n3 := (p0.same (j1.trans' j2)).ne hT3
    have n4 := (p0.same ((j1.trans' j2).trans' j3)).ne hT4
    have n5 := (p0.same (((j1.trans' j2).trans' j3).trans' j4)).ne hT5
    have n6 := (p0.same ((((j1.trans' j2).trans' j3).trans' j4).trans' j5)).ne hLo
    exact hD1 _ _ ⟨Lo, [V.non, .bl true, .bl false, .int 0, .int 1, .int (-1), .int (10 ^ (29 : Int).toNat), .str "", .str "0", .str "1", .str "01", .str "2", .str "0 ", .str " ", .ref T1, .ref T2, .ref T3, .ref T4, .ref T5, .str "a"], rfl, ((((j1.trans' j2).trans' j3).trans' j4).trans' j5).trans' j6, n6, upd_same,
      .cons .non (.cons (.bl _) (.cons (.bl _) (.cons (.int _) (.cons (.int _) (.cons (.int _) (.cons (.int _) (.cons (.str _) (.cons (.str _) (.cons (.str _) (.cons (.str _) (.cons (.str _) (.cons (.str _) (.cons (.str _)
      (.cons (.tup n1 (j6 _ _ (j5 _ _ (j4 _ _ (j3 _ _ (j2 _ _ upd_same))))) .nil)
      (.cons (.tup n2 (j6 _ _ (j5 _ _ (j4 _ _ (j3 _ _ upd_same)))) (.cons (.str _) .nil))
      (.cons (.lst n3 (j6 _ _ (j5 _ _ (j4 _ _ upd_same))) .nil)
      (.cons (.lst n4 (j6 _ _ (j5 _ _ upd_same)) (.cons (.str _) .nil))
      (.cons (.dic n5 (j6 _ _ upd_same))
      (.cons (.str _) .nil)))))))))))))))))))⟩
  rintro τ H1 ⟨Lo, xs, rfl, s1, nLo, hLo, tvs⟩
  have p1 := p0.same s1
  -- what is due
  have t4 : ∀ {G : Hp} {T : Addr} {b1 b2 b3 b4' : Bool}, T ≠ p → G T = some (.tup [.bl b1, .bl b2, .bl b3, .bl b4']) → Tv p G (.ref T) (b4 b1 b2 b3 b4') := fun n h => .tup n h (.cons (.bl _) (.cons (.bl _) (.cons (.bl _) (.cons (.bl _) .nil))))
  have rp : ∀ (T : Addr) (k : Nat), (List.replicate ((k : Nat) : Int).toNat [V.ref T]).flatten = List.replicate k (V.ref T) := fun T k => by rw [Int.toNat_natCast]; exact rep_one _ k
  refine seq_split (fun τ G => ∃ (Du : Addr) (ys : List V), τ = [some (.ref Lo), some (.ref Du), none, none, none] ∧ Same H1 G ∧ G Du = some (.lst ys) ∧ ys.length = 5 ∧ TvAll p G ys (List.replicate 3 (b4 false false false false) ++ List.replicate 2 (b4 true true false false))) (fun D1 hD1 => ?_) ?_
  · refine ⟨sz rfl, fun T1 hT1 => ⟨sz rfl, fun L1 hL1 => ?_⟩⟩
    have j1 := same_new hT1 (.tup [V.bl false, .bl false, .bl false, .bl false])
    have j2 := same_new hL1 (.lst [V.ref T1])
    refine ⟨L1, 3, _, rfl, rfl, upd_same, by decide, by decide, Nat.le_trans (show 1 * 3 ≤ 3 by decide) (by decide), fun R1 hR1 => ?_⟩
    have j3 := same_new hR1 (.lst (List.replicate (3 : Int).toNat [V.ref T1]).flatten)
    refine ⟨sz rfl, fun T2 hT2 => ⟨sz rfl, fun L2 hL2 => ?_⟩⟩
    have j4 := same_new hT2 (.tup [V.bl true, .bl true, .bl false, .bl false])
    have j5 := same_new hL2 (.lst [V.ref T2])
    refine ⟨L2, 2, _, rfl, rfl, upd_same, by decide, by decide, Nat.le_trans (show 1 * 2 ≤ 3 by decide) (by decide), fun R2 hR2 => ?_⟩
    have j6 := same_new hR2 (.lst (List.replicate (2 : Int).toNat [V.ref T2]).flatten)
    refine ⟨R1, R2, _, _, rfl, rfl, j6 _ _ (j5 _ _ (j4 _ _ upd_same)), upd_same, ?_, fun Du hDu => ?_⟩
    · show 3 + 2 ≤ sizeLine
      decide
    have j7 := same_new hDu (.lst ((List.replicate (3 : Int).toNat [V.ref T1]).flatten ++ (List.replicate (2 : Int).toNat [V.ref T2]).flatten))
    have n1 := p1.ne hT1
    have n2 := (p1.same ((j1.trans' j2).trans' j3)).ne hT2
    refine hD1 _ _ ⟨Du, _, rfl, (((((j1.trans' j2).trans' j3).trans' j4).trans' j5).trans' j6).trans' j7, upd_same, ?_, ?_⟩
    · rfl
    · have a1 := t4 (G := upd (upd (upd (upd (upd (upd (upd H1 T1 (.tup [V.bl false, .bl false, .bl false, .bl false])) L1 (.lst [V.ref T1])) R1 (.lst (List.replicate (3 : Int).toNat [V.ref T1]).flatten)) T2 (.tup [V.bl true, .bl true, .bl false, .bl false])) L2 (.lst [V.ref T2])) R2 (.lst (List.replicate (2 : Int).toNat [V.ref T2]).flatten)) Du (.lst ((List.replicate (3 : Int).toNat [V.ref T1]).flatten ++ (List.replicate (2 : Int).toNat [V.ref T2]).flatten))) n1 (j7 _ _ (j6 _ _ (j5 _ _ (j4 _ _ (j3 _ _ (j2 _ _ upd_same))))))
      have a2 := t4 (G := upd (upd (upd (upd (upd (upd (upd H1 T1 (.tup [V.bl false, .bl false, .bl false, .bl false])) L1 (.lst [V.ref T1])) R1 (.lst (List.replicate (3 : Int).toNat [V.ref T1]).flatten)) T2 (.tup [V.bl true, .bl true, .bl false, .bl false])) L2 (.lst [V.ref T2])) R2 (.lst (List.replicate (2 : Int).toNat [V.ref T2]).flatten)) Du (.lst ((List.replicate (3 : Int).toNat [V.ref T1]).flatten ++ (List.replicate (2 : Int).toNat [V.ref T2]).flatten))) n2 (j7 _ _ (j6 _ _ (j5 _ _ upd_same)))
      exact (tv_rep a1 3).app (tv_rep a2 2)
  rintro τ H2 ⟨Du, ys, rfl, s2, hDu, lys, tvd⟩
  have p2 := p1.same s2
  refine seq_split (fun τ G => ∃ (Du : Addr) (ys : List V), τ = [some (.ref Lo), some (.ref Du), none, none, none] ∧ Same H2 G ∧ G Du = some (.lst ys) ∧ ys.length = 8 ∧ TvAll p G ys (List.replicate 3 (b4 false false false false) ++ List.replicate 2 (b4 true true false false) ++ [b4 true false false false, b4 true true false false, b4 false false false true])) (fun D1 hD1 => ?_) ?_
  · refine ⟨_, rfl, sz rfl, fun T1 hT1 => ⟨sz rfl, fun T2 hT2 => ⟨sz rfl, fun T3 hT3 => ⟨sz rfl, fun L1 hL1 => ?_⟩⟩⟩⟩
    have j1 := same_new hT1 (.tup [V.bl true, .bl false, .bl false, .bl false])
    have j2 := same_new hT2 (.tup [V.bl true, .bl true, .bl false, .bl false])
    have j3 := same_new hT3 (.tup [V.bl false, .bl false, .bl false, .bl true])
    have j4 := same_new hL1 (.lst [V.ref T1, .ref T2, .ref T3])
    have j14 := ((j1.trans' j2).trans' j3).trans' j4
    refine ⟨Du, L1, ys, _, rfl, rfl, j14 _ _ hDu, upd_same, by rw [lys]; exact Nat.le_trans (show 5 + 3 ≤ 8 by decide) (by decide), fun D2 hD2 => ?_⟩
    have j5 := same_new hD2 (.lst (ys ++ [V.ref T1, .ref T2, .ref T3]))
    have n1 := p2.ne hT1
    have n2 := (p2.same j1).ne hT2
    have n3 := (p2.same (j1.trans' j2)).ne hT3
    exact hD1 _ _ ⟨D2, _, rfl, j14.trans' j5, upd_same, by rw [List.length_append, lys]; rfl, (tvd.same (j14.trans' j5)).app (.cons (t4 n1 (j5 _ _ (j4 _ _ (j3 _ _ (j2 _ _ upd_same))))) (.cons (t4 n2 (j5 _ _ (j4 _ _ (j3 _ _ upd_same)))) (.cons (t4 n3 (j5 _ _ (j4 _ _ upd_same))) .nil)))⟩
  rintro τ H3 ⟨Du3, ys3, rfl, s3, hDu3, lys3, tvd3⟩
  have p3 := p2.same s3
  refine seq_split (fun τ G => ∃ (Du : Addr) (ys : List V), τ = [some (.ref Lo), some (.ref Du), none, none, none] ∧ Same H3 G ∧ Du ≠ p ∧ G Du = some (.lst ys) ∧ TvAll p G ys basD) (fun D1 hD1 => ?_) ?_
  · refine ⟨_, rfl, sz rfl, fun T1 hT1 => ⟨sz rfl, fun L1 hL1 => ?_⟩⟩
    have j1 := same_new hT1 (.tup [V.bl false, .bl false, .bl true, .bl true])
    have j2 := same_new hL1 (.lst [V.ref T1])
    refine ⟨L1, 2, _, rfl, rfl, upd_same, by decide, by decide, Nat.le_trans (show 1 * 2 ≤ 3 by decide) (by decide), fun R1 hR1 => ?_⟩
    have j3 := same_new hR1 (.lst (List.replicate (2 : Int).toNat [V.ref T1]).flatten)
    refine ⟨Du3, R1, ys3, _, rfl, rfl, ((j1.trans' j2).trans' j3) _ _ hDu3, upd_same, by rw [lys3]; exact Nat.le_trans (show 8 + 2 ≤ 10 by decide) (by decide), fun C1 hC1 => ?_⟩
    have j4 := same_new hC1 (.lst (ys3 ++ (List.replicate (2 : Int).toNat [V.ref T1]).flatten))
    refine ⟨sz rfl, fun T2 hT2 => ⟨sz rfl, fun L2 hL2 => ?_⟩⟩
    have j5 := same_new hT2 (.tup [V.bl false, .bl false, .bl false, .bl true])
    have j6 := same_new hL2 (.lst [V.ref T2])
    refine ⟨C1, L2, _, _, rfl, rfl, j6 _ _ (j5 _ _ upd_same), upd_same, by rw [List.length_append, lys3]; exact Nat.le_trans (show 8 + 2 + 1 ≤ 11 by decide) (by decide), fun C2 hC2 => ?_⟩
    have j7 := same_new hC2 (.lst (ys3 ++ (List.replicate (2 : Int).toNat [V.ref T1]).flatten ++ [V.ref T2]))
    refine ⟨sz rfl, fun T3 hT3 => ?_⟩
    have j8 := same_new hT3 (.tup [V.bl false])
    have n1 := p3.ne hT1
    have s14 := ((j1.trans' j2).trans' j3).trans' j4
    have s17 := ((s14.trans' j5).trans' j6).trans' j7
    have n2 := (p3.same s14).ne hT2
    have n3 := (p3.same s17).ne hT3
    refine ⟨T3, 4, _, rfl, rfl, SqT.of upd_same, List.cons_ne_nil _ _, by decide, by show 1 ≤ 1000; decide, fun h1 => absurd h1 (by decide), fun _ r9 hr9' => ⟨sz rfl, fun L4 hL4 => ?_⟩⟩
    have s9 := same_new hr9' (.tup (List.replicate 4 [V.bl false]).flatten)
    have n9 : r9 ≠ p := ((p3.same s17).same j8).ne hr9'
    have j10 := same_new hL4 (.lst [V.ref r9])
    refine ⟨L4, 9, _, rfl, rfl, upd_same, by decide, by decide, Nat.le_trans (show 1 * 9 ≤ 9 by decide) (by decide), fun R4 hR4 => ?_⟩
    have j11 := same_new hR4 (.lst (List.replicate (9 : Int).toNat [V.ref r9]).flatten)
    have s811 := ((j8.trans' s9).trans' j10).trans' j11
    refine ⟨C2, R4, _, _, rfl, rfl, s811 _ _ upd_same, upd_same, by rw [List.length_append, List.length_append, lys3]; exact Nat.le_trans (show 8 + 2 + 1 + 9 ≤ 20 by decide) (by decide), fun D4 hD4 => ?_⟩
    have j12 := same_new hD4 (.lst (ys3 ++ (List.replicate (2 : Int).toNat [V.ref T1]).flatten ++ [V.ref T2] ++ (List.replicate (9 : Int).toNat [V.ref r9]).flatten))
    have sAll := (s17.trans' s811).trans' j12
    have nD := (p3.same (s17.trans' s811)).ne hD4
    refine hD1 _ _ ⟨D4, _, rfl, sAll, nD, upd_same, ?_⟩
    have a1 : Tv p _ (.ref T1) (b4 false false true true) := t4 n1 (j12 _ _ (s811 _ _ (j7 _ _ (j6 _ _ (j5 _ _ (j4 _ _ (j3 _ _ (j2 _ _ upd_same))))))))
    have a2 : Tv p _ (.ref T2) (b4 false false false true) := t4 n2 (j12 _ _ (s811 _ _ (j7 _ _ (j6 _ _ upd_same))))
    have a3 : Tv p _ (.ref r9) (b4 false false false false) := t4 n9 (j12 _ _ (j11 _ _ (j10 _ _ upd_same)))
    exact (((tvd3.same sAll).app (tv_rep a1 2)).app (.cons a2 .nil)).app (tv_rep a3 9)
  rintro τ H4 ⟨Du4, ys4, rfl, s4, nDu4, hDu4, tvd4⟩
  have p4 := p3.same s4
  have s14 := ((s2.trans' s3).trans' s4)
  have hLo4 := s14 _ _ hLo
  have tvs4 := tvs.same s14
  have lxs := tvs4.len
  have shV : ∀ d ∈ basV, shortD d := fun d hd => shB (List.all_eq_true.mp (show basV.all shortB = true by decide +kernel) d hd)
  have bsA : ∀ {G : Hp} {v : V} {d : PyData}, (∃ T, v = .ref T ∧ T ≠ p ∧ G T = some (.tup [.bl (numD d), .bl (cntD d), .bl (sgnV d), .bl (txtD d)])) → Tv p G v (bsD d) := fun ⟨T, e, n, h⟩ => by
    subst e
    exact .tup n h (.cons (.bl _) (.cons (.bl _) (.cons (.bl _) (.cons (.bl _) .nil))))
  have bsAll : ∀ {G : Hp} {vs : List V} {ds : List PyData}, Paired (fun v d => ∃ T, v = .ref T ∧ T ≠ p ∧ G T = some (.tup [.bl (numD d), .bl (cntD d), .bl (sgnV d), .bl (txtD d)])) vs ds → TvAll p G vs (ds.map bsD) := fun h => by
    induction h with
    | nil => exact .nil
    | cons a _ ih => exact .cons (bsA a) ih
  have bsKeep : ∀ {G G' : Hp} {vs : List V} {ds : List PyData}, Tups G G' → Paired (fun v d => ∃ T, v = .ref T ∧ T ≠ p ∧ G T = some (.tup [.bl (numD d), .bl (cntD d), .bl (sgnV d), .bl (txtD d)])) vs ds → Paired (fun v d => ∃ T, v = .ref T ∧ T ≠ p ∧ G' T = some (.tup [.bl (numD d), .bl (cntD d), .bl (sgnV d), .bl (txtD d)])) vs ds := fun tu h => by
    induction h with
    | nil => exact .nil
    | cons a _ ih =>
      obtain ⟨T, e, n, h⟩ := a
      exact .cons ⟨T, e, n, tu _ _ h⟩ ih
  refine seq_split (fun τ G => ∃ (To : Addr) (us : List V), τ = [some (.ref Lo), some (.ref Du4), some (.ref To), none, none] ∧ Same H4 G ∧ To ≠ p ∧ G To = some (.lst us) ∧ TvAll p G us (basV.map bsD)) (fun D1 hD1 => ?_) ?_
  · refine ⟨_, rfl, Lo, rfl, ⟨_, SqL.of hLo4⟩, fun D hD => lc_it walk_list (fun j G => Same H4 G ∧ ∃ us, G D = some (.lst us) ∧ Paired (fun v d => ∃ T, v = .ref T ∧ T ≠ p ∧ G T = some (.tup [.bl (numD d), .bl (cntD d), .bl (sgnV d), .bl (txtD d)])) us (basV.take j)) ⟨same_new hD _, [], upd_same, .nil⟩ (fun j G _ z => SqL.of (z.1 _ _ hLo4)) ?_ ?_⟩
    · rintro j x G1 G2 hj ⟨sm, us, hd, pr⟩ ⟨rfl, hx⟩
      obtain ⟨d, hdd, tvx0⟩ := tvs4.at hx
      have tvx := tvx0.same sm
      have lu := paired_len pr
      refine ⟨rfl, tyI ⟨_, rfl, p, x, d, rfl, tvx, _, rfl, p, x, d, rfl, tvx, _, rfl, p, x, d, rfl, tvx, _, rfl, p, x, d, rfl, tvx, shV d (List.mem_of_getElem? hdd), fun G5 s5 => ⟨sz rfl, fun T hT => ?_⟩⟩⟩
      have k1 := same_new hT (.tup [V.bl (numD d), .bl (cntD d), .bl (sgnV d), .bl (txtD d)])
      have hd' := k1 _ _ (s5 _ _ hd)
      have tu := tups_at hd' (o := .lst (us ++ [.ref T]))
      refine ⟨_, hd', ?_, same_at ((sm.trans' s5).trans' k1) hD, _, upd_same, ?_⟩
      · rw [lu, List.length_take]
        exact Nat.lt_of_le_of_lt (Nat.min_le_right _ _) (by decide)
      · rw [List.take_add_one, hdd]
        exact paired_app (bsKeep ((Tups.of (s5.trans' k1)).trans tu) pr) (.cons ⟨T, rfl, ((p4.same sm).same s5).ne hT, tu _ _ upd_same⟩ .nil)
    rintro G ⟨sm, us, hd, pr⟩
    rw [lxs, List.take_length] at pr
    exact hD1 _ _ ⟨D, us, rfl, sm, p4.ne hD, hd, bsAll pr⟩
  rintro τ H5 ⟨To, us, rfl, s5, nTo, hTo, tvt⟩
  have p5 := p4.same s5
  refine seq_split (fun τ G => ∃ Nm : Addr, τ = [some (.ref Lo), some (.ref Du4), some (.ref To), some (.ref Nm), none] ∧ Same H5 G ∧ Nm ≠ p ∧ G Nm = some (.lst [.bl true, .bl true, .bl true, .bl true])) (fun D1 hD1 => ?_) ?_
  · refine ⟨rfl, p, .int 3, .int 3, rfl, .int _, rfl, p, .int 0, .int 0, rfl, .int _, rfl, p, .str "1", .str "1", rfl, .str _, rfl, p, .str "", .str "", rfl, .str _, shB (by decide +kernel), fun H6 s6 => ⟨sz rfl, fun Nm hNm => ?_⟩⟩
    refine hD1 _ _ ⟨Nm, rfl, s6.trans' (same_new hNm _), (p5.same s6).ne hNm, upd_same.trans ?_⟩
    rw [show numD (.int 3) = true from rfl, show cntD (.int 0) = true by decide +kernel, show sgnV (.str "1") = true by decide +kernel, show txtD (.str "") = true by decide +kernel]
  rintro τ H6 ⟨Nm, rfl, s6, nNm, hNm⟩
  have p6 := p5.same s6
  rw [bas_eq] at tvt
  refine ⟨_, rfl, _, rfl, sz rfl, fun M1 hM1 => ?_⟩
  have k1 := same_new hM1 (.lst [V.ref To, .ref Nm])
  dsimp only [tNil]
  have nM1 := p6.ne hM1
  have hTo6 := s6 _ _ hTo
  have e2 : PyData.list [.list basD, .list [.bool true, .bool true, .bool true, .bool true]] = PyData.list [.list basD, .list (List.replicate 4 (.bool true))] := rfl
  have sh : (PyData.list [.list basD, .list [.bool true, .bool true, .bool true, .bool true]]).showable = true := by decide +kernel
  have dp : (PyData.list [.list basD, .list [.bool true, .bool true, .bool true, .bool true]]).depth ≤ 30 := by decide +kernel
  have ln : (PyData.list [.list basD, .list [.bool true, .bool true, .bool true, .bool true]]).shown.length ≤ 2000 := by decide +kernel
  have ln2 : (PyData.list [.list basD, .list [.bool true, .bool true, .bool true, .bool true]]).shown.length ≤ sizeLine := Nat.le_trans ln (by decide)
  refine .inl ⟨p, .ref M1, _, rfl, .lst nM1 upd_same (.cons (.lst nTo (k1 _ _ hTo6) ((tvt.same s6).same k1)) (.cons (.lst nNm (k1 _ _ hNm) (.cons (.bl _) (.cons (.bl _) (.cons (.bl _) (.cons (.bl _) .nil))))) .nil)), sh, dp, ln2, ?_⟩
  refine ⟨_, rfl, sz rfl, fun L1 hL1 => ?_⟩
  have k2 := same_new hL1 (.lst [V.bl true])
  refine ⟨L1, 4, _, rfl, rfl, upd_same, by decide, by decide, Nat.le_trans (show 1 * 4 ≤ 4 by decide) (by decide), fun R1 hR1 => ?_⟩
  have k3 := same_new hR1 (.lst (List.replicate (4 : Int).toNat [V.bl true]).flatten)
  refine ⟨sz rfl, fun M2 hM2 => ?_⟩
  have k4 := same_new hM2 (.lst [V.ref Du4, .ref R1])
  have s14' := ((k1.trans' k2).trans' k3).trans' k4
  have s6t := (s5.trans' s6).trans' s14'
  have nR1 := (p6.same (k1.trans' k2)).ne hR1
  have nM2 := (p6.same ((k1.trans' k2).trans' k3)).ne hM2
  dsimp only [tNil]
  refine .inl ⟨p, .ref M2, PyData.list [.list basD, .list [.bool true, .bool true, .bool true, .bool true]], rfl, .lst nM2 upd_same (.cons (.lst nDu4 (s6t _ _ hDu4) (tvd4.same s6t)) (.cons (.lst nR1 (k4 _ _ upd_same) (.cons (.bl _) (.cons (.bl _) (.cons (.bl _) (.cons (.bl _) .nil))))) .nil)), sh, dp, ln2, ?_⟩
  refine ⟨rfl, ?_⟩
  have et : ∀ x : V, decide (x = x) = true := fun x => decide_eq_true rfl
  show Q (.bl (decide (V.str _ = V.str _))) _
  rw [et]
  exact q _ (((s1.trans' s14).trans' s6t))
end
end FY


set_option Elab.async false
set_option linter.all false
set_option maxRecDepth 100000
set_option maxHeartbeats 4000000
/-! the loop of list.__repr__ over things whose own repr may run defs: an invariant J instead of one end state -/
namespace FYR
open PySem PySem.Spec PyProof.Rows L2
open PySem.Builtin
open PySem.Builtin.List
abbrev lisO (acc : Array Value) (c : Nat) : Obj := { cls := .type "list", dict := none, data := .seq acc c, slots := #[] }
/-- repr of x is t, for any surroundings that are `Ok`; J is kept -/
def RepF (prog : Program) (w : World) (Ok : Around → Prop) (J : Shared → Prop) (x : Value) (t : Str) : Prop :=
  ∀ (base : Nat), base + t.length ≤ sizeLine → ∀ (A : Around) (E : Value → Shared → Prop) (s : Shared) (Q : Str → Shared → Prop), Ok A → J s → (∀ s', J s' → Q t s') → wpAny (model prog w) A (pyReprUnder base x) Q E s
/-- an invariant over the list under way at P, that reads the list at a -/
structure LoopJ (J : Array Value → Nat → Shared → Prop) (a P : Addr) (items : Array Value) : Prop where
  src : ∀ acc c s, J acc c s → ∃ oa na, s.heap.get? a = some oa ∧ oa.data = .seq items na
  acc : ∀ acc c s, J acc c s → s.heap.get? P = some (lisO acc c)
  upd : ∀ acc c acc' c' s h' tk, J acc c s → h'.get? P = some (lisO acc' c') → (∀ b o, b ≠ P → s.heap.get? b = some o → h'.get? b = some o) → J acc' c' { s with heap := h', toks := tk }
section
variable {prog : Program} {w : World} {A : Around} {R : Result → Shared → Prop}
theorem codeAny_list_repr_loopF {a P : Addr} {items : Array Value} {ts : List Str} {Ok : Around → Prop} {J : Array Value → Nat → Shared → Prop} {base : Nat} (hOk : ∀ rest, Ok (A.under (.builtin "list.__repr__.loop" ⟨.ref a :: rest, []⟩))) (L : LoopJ J a P items) (hlen : ts.length = items.size)
    (hT : ∀ (i : Nat) (x : Value), items[i]? = some x → ∃ t, ts[i]? = some t ∧ ∀ acc c, RepF prog w Ok (J acc c) x t)
    (hsz : base + (listText ts).length ≤ sizeLine) :
    ∀ (k i : Nat) (s : Shared) (acc : Array Value) (c : Nat) (done : List (Str × Tok)), items.size - i = k → i ≤ items.size → J acc c s → acc.toList = strValues done → done.map (·.1) = ts.take i →
    (∀ acc c s' u, J acc c s' → R (.ok (.ret (.str (listText ts) u))) s') →
    codeAny (model prog w) A (.builtin "list.__repr__.loop" ⟨[.ref a, rawInt i, .ref P, rawInt ((base + piled (ts.take i) : Nat) : Int)], []⟩) R s := by
  have hX : (listText ts).length = (textFrom 0 "[" ts).length + 1 := by
    show (textFrom 0 "[" ts ++ "]").length = _
    rw [strLen_append]; rfl
  have hL := textFrom_len ts 0 "["
  have hsz1 : items.size ≤ sizeLine := by
    have h1 := hL.1
    rw [if_neg (Nat.lt_irrefl 0)] at h1
    omega
  have hsz2 : ∀ t ∈ ts, t.length ≤ sizeLine := fun t ht => by
    have h2 := hL.2.1 t ht
    omega
  have hsz3 : (listText ts).length ≤ sizeLine := by omega
  have hp3 := piled_le_listText ts
  intro k
  induction k with
  | zero =>
    intro i s acc c done hk hi j hacc hdone hR
    have hin : i = items.size := by omega
    obtain ⟨oa, na, ha, hda⟩ := L.src _ _ _ j
    have hP := L.acc _ _ _ j
    refine codeAny_builtin F.entry_list_repr_loop ?_
    show wpAny _ _ («list.__repr__.loop» ⟨[.ref a, .int i 0, .ref P, .int ((base + piled (ts.take i) : Nat) : Int) 0], []⟩) _ _ s
    rw [repr_loop_tree]
    refine wpAny_bind (wpAny_listItems ha hda ?_)
    have hnone : items[(i : Int).toNat]? = none := by simp [hin]
    simp only [hnone]
    unfold reprEnd
    refine wpAny_bind (wpAny_listItems hP rfl ?_)
    rw [hacc, repr_fold]
    refine wpAny_bind (wpAny_pure ?_)
    have hall : done.map (·.1) = ts := by rw [hdone, hin, ← hlen, List.take_length]
    rw [hall]
    refine wpAny_bind (wpAny_mkStr (wpAny_pure ?_) hsz3)
    exact hR acc c _ _ (L.upd _ _ _ _ s s.heap _ j hP fun _ _ _ e => e)
  | succ k ih =>
    intro i s acc c done hk hi j hacc hdone hR
    have hlt : i < items.size := by omega
    obtain ⟨oa, na, ha, hda⟩ := L.src _ _ _ j
    obtain ⟨t, ht, hrep⟩ := hT i items[i] (by simp [hlt])
    have hp1 := piled_take_succ ht
    have hp2 := piled_take_le ts (i + 1)
    refine codeAny_builtin F.entry_list_repr_loop ?_
    show wpAny _ _ («list.__repr__.loop» ⟨[.ref a, .int i 0, .ref P, .int ((base + piled (ts.take i) : Nat) : Int) 0], []⟩) _ _ s
    rw [repr_loop_tree]
    refine wpAny_bind (wpAny_listItems ha hda ?_)
    have hsome : items[(i : Int).toNat]? = some items[i] := by simp [hlt]
    simp only [hsome]
    rw [Int.toNat_natCast]
    refine wpAny_bind (wpAny_holding (hrep acc c (base + piled (ts.take i) + 1) (by omega) _ _ _ _ (hOk _) j fun s' j' => ?_))
    have hP := L.acc _ _ _ j'
    refine wpAny_bind (wpAny_mkStr ?_ (hsz2 t (List.mem_of_getElem? ht)))
    refine wpAny_bind ?_
    show wpAny _ _ (updateSeq P _) _ _ _
    have hasz : acc.size ≤ sizeLine := by
      have e1 : acc.toList.length = acc.size := by simp
      have e2 : (strValues done).length = done.length := by simp [strValues]
      have e3 : done.length = (ts.take i).length := by rw [← hdone, List.length_map]
      have e4 : (ts.take i).length ≤ i := by rw [List.length_take]; omega
      rw [hacc] at e1; omega
    refine wpAny_updateSeq hP rfl (wpAny_pure ⟨F.quiet_list_repr_loop _, ?_⟩) hasz
    have e1 : ((i : Int) + 1) = ((i + 1 : Nat) : Int) := by omega
    have e2 : base + piled (ts.take i) + (t.length + 2) = base + piled (ts.take (i + 1)) := by omega
    rw [e1, e2]
    exact ih (i + 1) _ (acc.push (.str t s'.toks)) _ (done ++ [(t, s'.toks)]) (by omega) hlt (L.upd _ _ _ _ s' _ _ j' (Heap.get?_update_self _ hP rfl) fun b o nb e => (Heap.get?_update_other _ _ (fun h : P = b => nb h.symm)).trans e) (by simp [hacc, strValues]) (by simp [List.take_add_one, ht, hdone]) hR
end
end FYR

set_option Elab.async false
set_option linter.all false
set_option maxRecDepth 100000
set_option maxHeartbeats 4000000
/-! repr of a list of instances -/
namespace FYR
open PySem PySem.Spec PyProof.Rows L2
open PySem.Builtin
open PySem.Builtin.List
section
variable {X : Cx} {pins : List (Addr × Obj)} {σ : L2.St} {H : Hp} {s : Shared} {P a : Addr}
/-- a record of ours at P, whatever stands there -/
structure PinSt (X : Cx) (pins : List (Addr × Obj)) (P : Addr) : Prop where
  l : P ≠ X.env.locals
  f : P ∉ X.fs
  b : P ∈ X.ex ∨ X.s_0.heap.objs.size ≤ P
  c : ∀ x c, X.env.cells.lookup x = some c → c ≠ P
  p : ∀ p ∈ X.pn ++ pins, p.1 ≠ P
theorem pinSt_new (I : Inv X pins σ H s) : PinSt X pins s.heap.objs.size := by
  obtain ⟨_, l, f, b, c, p⟩ := I.fpOk (H' := H) (Nat.le_refl _) (I.hok.fresh (Nat.le_refl _))
  exact ⟨l, f, b, c, p⟩
theorem repin {o o' : Obj} {h' : Heap} {t' : Nat} (S : PinSt X pins P) (I : Inv X ((P, o) :: pins) σ H s) (g : h'.get? P = some o') (hc : ∀ v, o'.data ≠ .cell v) (k : ∀ b u, b ≠ P → s.heap.get? b = some u → h'.get? b = some u) :
    Inv X ((P, o') :: pins) σ H { s with heap := h', toks := t' } := by
  have n := ClX.pin_un I
  have I1 : Inv X pins σ H { s with heap := h', toks := t' } := (ClX.unpin I).turnedL (ch := [P]) (fun b u nb e => k b u (fun z => nb (by rw [z]; exact List.mem_singleton.mpr rfl)) e) fun b hb => by
    obtain rfl := List.mem_singleton.mp hb
    exact ⟨n, S.l, S.f, S.b, S.c, S.p⟩
  refine I1.pins_of fun p hp => ?_
  rcases List.mem_cons.mp hp with e | e
  · subst e
    exact ⟨g, n, S.l, S.f, hc⟩
  · exact I1.pin p (List.mem_append_right _ e)
/-- kept: the way goes on, all that stood stands -/
def KJ (X : Cx) (pins : List (Addr × Obj)) (σ : L2.St) (H : Hp) (s : Shared) : Prop := ∃ H', Inv X pins σ H' s ∧ Same H H'
theorem vals_refs : ∀ {rs : List Addr} {us : List Value}, Vals (rs.map V.ref) us → us = rs.map Value.ref
  | [], _, .nil => rfl
  | r :: rs, _, .cons e q => by
    cases e
    rw [vals_refs q]; rfl
theorem loopJ {rs : List Addr} (S : PinSt X pins P) (ha : H a = some (.lst (rs.map V.ref))) : LoopJ (fun acc c => KJ X ((P, lisO acc c) :: pins) σ H) a P (rs.map Value.ref).toArray where
  src := fun acc c s ⟨H', I, sm⟩ => by
    obtain ⟨_, its, n, rv, _, g⟩ := I.lstM (sm _ _ ha)
    obtain rfl := vals_refs rv
    exact ⟨_, n, g, rfl⟩
  acc := fun acc c s ⟨H', I, sm⟩ => ClX.pin_at I
  upd := fun acc c acc' c' s h' tk ⟨H', I, sm⟩ g k => ⟨H', repin S I g (fun v => nofun) k, sm⟩
/-- list.__repr__ over instances, at the top -/
theorem wpAny_repr_refs {A : Around} {E : Value → Shared → Prop} {Q : Value → Shared → Prop} {r : Addr} {rs : List Addr} {ts : List Str} {Ok : Around → Prop} {g : List Code} (I : Inv X pins σ H s) (ha : H a = some (.lst ((r :: rs).map V.ref)))
    (hg : A.guards = some g) (hcl : Clear g a) (hu : A.units < cLine) (hOk : ∀ rest, Ok (A.under (.builtin "list.__repr__.loop" ⟨.ref a :: rest, []⟩))) (hlen : ts.length = (r :: rs).length)
    (hT : ∀ (i : Nat) (b : Addr), (r :: rs)[i]? = some b → ∃ t, ts[i]? = some t ∧ ∀ pins', RepF X.prog X.w Ok (KJ X pins' σ H) (.ref b) t)
    (hsz : (listText ts).length ≤ sizeLine) (hQ : ∀ s' u, KJ X pins σ H s' → Q (.str (listText ts) u) s') : wpAny (model X.prog X.w) A (pyReprObj (.ref a)) Q E s := by
  obtain ⟨_, its, n, rv, _, ga⟩ := I.lstM ha
  obtain rfl := vals_refs rv
  have hTy : s.TypeIs (.ref a) "list" := ⟨_, ga, rfl⟩
  unfold pyReprObj
  refine wpAny_bind (wpAny_cRoomFor (by omega) ?_)
  refine wpAny_bind (wpAny_specialOf (name := Str.ofString "__repr__") hTy F.slot_list_repr.lookup ?_)
  refine wpAny_bind (m := callSpecialIfBound? (.ref a) (Str.ofString "__repr__")) (wpAny_callSpecialIfBound?_slot (name := Str.ofString "__repr__") hTy F.slot_list_repr ?_)
  refine wpAny_call (codeAny_call_builtin F.slot_list_repr.plain F.entry_list_repr (F.slot_list_repr.check _ _ _ _ _ _ _ _ ⟨_, ga, rfl⟩ (F.args_list_repr_1 _) ?_))
  refine wpAny_list_repr_head (A := A.in1) (b := 0) hg (fun v rest kw hm => listSameRef_of_ne (hcl _ _ _ _ hm)) ga rfl ?_
  refine wpAny_bind (m := newList []) (wpAny_newObj_type ?_)
  refine wpAny_pure ⟨F.quiet_list_repr_loop _, ?_⟩
  have S := pinSt_new I
  refine codeAny_list_repr_loopF (base := 0) (P := s.heap.objs.size) hOk (loopJ (σ := σ) S ha) (by simpa using hlen) (fun i x e => ?_) (by omega) _ 0 _ #[] _ [] rfl (Nat.zero_le _) ⟨H, ClX.pin_new I (fun b u e => Heap.get?_push_of_some _ e) (Nat.le_refl _) (Heap.get?_push_size _ rfl) (fun v => nofun), Same.refl H⟩ rfl (by simp) fun acc c s' u j => ?_
  · have e' : ((r :: rs).map Value.ref)[i]? = some x := by simpa using e
    rw [List.getElem?_map] at e'
    obtain ⟨b, eb, rfl⟩ := Option.map_eq_some_iff.mp e'
    obtain ⟨t, et, h⟩ := hT i b eb
    exact ⟨t, et, fun acc c => h _⟩
  · obtain ⟨H', I', sm⟩ := j
    exact wpAny_bind (wpAny_isInstance (T := "str") (b := true) rfl isSubtype_str_str (wpAny_pure (hQ s' u ⟨H', ClX.unpin I', sm⟩)))
end
end FYR

set_option Elab.async false
set_option linter.all false
set_option maxRecDepth 100000
set_option maxHeartbeats 4000000
/-! repr of an instance by its class's own def, also where a list's repr is under way -/
namespace FYR
open PySem PySem.Spec PyProof.Rows L2
/-- a repr is under way, of a list of instances alone -/
def OkG (H : Hp) (g : List Code) : Prop := ∃ (a i C dx : Addr) (fs : List (Str × V)) (vs : List V), (∀ b, b ≠ a → Clear g b) ∧ H a = some (.lst (.ref i :: vs)) ∧ H i = some (.ins C dx fs)
theorem OkG.same {H H' : Hp} {g : List Code} (h : OkG H g) (sm : Same H H') : OkG H' g := let ⟨a, i, C, dx, fs, vs, c, e1, e2⟩ := h; ⟨a, i, C, dx, fs, vs, c, sm _ _ e1, sm _ _ e2⟩
/-- what reads as data is not under way -/
theorem OkG.clear {X : Cx} {pins : List (Addr × Obj)} {σ : L2.St} {H : Hp} {s : Shared} {g : List Code} (h : OkG H g) (I : Inv X pins σ H s) {b : Addr} {d : PyData} {as : List Addr} (r : Reads s.heap (.ref b) d as) : Clear g b := by
  obtain ⟨a, i, C, dx, fs, vs, c, e1, e2⟩ := h
  refine c b fun z => ?_
  subst z
  obtain ⟨_, its, n, rv, _, ga⟩ := I.lstM e1
  cases rv with
  | cons ri rr =>
    cases ri
    obtain ⟨mA, J, _⟩ := ins_get I.hok e2
    have go := J.obj
    cases r with
    | list h1 h2 h3 h4 =>
      rw [ga] at h1
      cases h1
      cases h3
      cases h4 with
      | cons r1 r2 =>
        cases r1 with
        | list k1 k2 _ _ => rw [go] at k1; cases k1; cases k2
        | tuple k1 k2 _ _ => rw [go] at k1; cases k1; cases k2
        | dict k1 k2 _ _ _ => rw [go] at k1; cases k1; cases k2
    | tuple h1 h2 h3 h4 => rw [ga] at h1; cases h1; exact absurd (Value.type.inj h2) (by decide)
    | dict h1 h2 h3 h4 h5 => rw [ga] at h1; cases h1; exact absurd (Value.type.inj h2) (by decide)
/-- as FnG, but a repr may be under way: of a list of instances -/
structure FnU (P : Program) (w : World) (K : PySem.W.Frag) (mg : Str → Option Value) (base : Heap) (k : Nat) (f : Addr) (fd : FuncData) (ps : List Str) (sp : Sp) : Prop where
  len : ∀ vs H Q E, sp vs H Q E → vs.length = ps.length
  run : ∀ (A : Around) (g : List Code) (outer : List Env) (s : Shared) (H : Hp) (args : Args) (us : List Value) (vs : List V) (Q : VK) (E : XK), A.guards = some g → OkG H g → Room k A → Env0 P w K mg base A outer s H → BindsTo s fd args (ps.zip us) → Vals vs us → sp vs H Q E →
    codeAny (model P w) A (.call (.ref f) args) (CR C8.CX0 outer P w H s Q E) s
section
variable {P : Program} {w : World} {K : PySem.W.Frag} {mg : Str → Option Value} {base : Heap}
theorem fnU_of {x qual : Str} {st : Stmt} {f : Addr} {fd : FuncData} {N ps : List Str} {k : Nat} {sp : Sp} (F : Fun K x qual st f fd) (S : FnScope N ps (defScope st)) (len : ∀ vs H Q E, sp vs H Q E → vs.length = ps.length)
    (hbody : ∀ (cdv : Value) (A : Around) (g : List Code) (outer : List Env) (s : Shared) (H : Hp) (vs : List V) (Q : VK) (E : XK), A.guards = some g → OkG H g → Room k (A.deeper (envOfC qual (defScope st) s.heap.objs.size f cdv)) → sp vs H Q E →
      ∃ t, PSs (cxOf CX0 P w K mg base N qual (defScope st) f cdv A outer s H E).nox (defBody st) t ∧ t { nx := fun _ H' => Q .non H', rt := Q } (start N vs) H) : FnU P w K mg base (k + 1) f fd ps sp := by
  obtain ⟨oc, od, kV, doc, pm, an, cdv, ct, osl, rfl, lk, hcd⟩ := F.ex
  refine ⟨len, fun A g outer s H args us vs Q E hgd hcl hr e0 hb r hsp => ?_⟩
  have hl := len _ _ _ _ hsp
  have kin : K.In s.heap := e0.mod.kin.keeps fun b o e => (e0.bs b o e).1
  have nolim : s.heap.NoLimit := e0.mod.nolimit.keeps fun b o e => (e0.bs b o e).1
  have kinds : ∀ y ∈ ps.zip us, (defScope st).names.lookup y.1 = some .local ∨ ((defScope st).names.lookup y.1 = some .cell ∧ ((cellsFrom (s.heap.objs.size + 1) (defScope st).names []).lookup y.1).isSome = true) := by
    rintro ⟨n, v⟩ hy
    exact (S.par n (List.of_mem_zip hy).1).imp id fun q => ⟨q, PySem.W.cellsFrom_some _ _ _ (.inl q)⟩
  refine codeAny_call_function hr.depth (kin _ _ lk) rfl S.co S.gen rfl (PySem.W.codeRec_of kin hcd) (hb _ _ _ _ ?_)
  refine wpAny_newFunctionEnv_cells S.kind kinds fun env he s1 x => ?_
  subst he
  refine ⟨nolim.keeps x.toInCall.keep, codeAny_func ?_⟩
  obtain ⟨t, ht, hq⟩ := hbody cdv A g outer s H vs Q E hgd hcl (hr.deeper _) hsp
  have I : Inv (cxOf CX0 P w K mg base N qual (defScope st) f cdv A outer s H E) [] (start N vs) H s1 := inv_start S hr.hd e0 hl r x
  refine wpAny_mono (ht.nox.run [] s1 (start N vs) H _ I hq) (fun fl s' hs => ?_) fun e s' hs => hs
  cases fl with
  | ret u =>
    obtain ⟨v, σ', H', J, rv, q⟩ := hs
    exact ⟨v, H', J.os, J.bare, J.base, J.hok, rv, q⟩
  | next =>
    obtain ⟨σ', H', J, q⟩ := hs
    exact ⟨.non, H', J.os, J.bare, J.base, J.hok, rfl, q⟩
  | brk =>
    obtain ⟨_, _, _, q⟩ := hs
    exact q.elim
  | cont =>
    obtain ⟨_, _, _, q⟩ := hs
    exact q.elim
end
section
variable {X : Cx} {n : Nat} {C f : Addr} {fd : FuncData} {ps : List Str} {sp : Sp} {pins : List (Addr × Obj)} {σ : L2.St} {H : Hp} {s : Shared}
/-- the own __repr__ is run, from any surroundings over the same frames -/
theorem run_own {A : Around} {g : List Code} {b : Addr} {t : Str} {E : Value → Shared → Prop} (Fn : FnU X.prog X.w X.K X.mg X.base n f fd ps sp) (hb : Binds X.K fd ps []) (hg : A.guards = some g) (hcl : OkG H g) (hr : Room n A) (hf : A.frames = some X.stack) (I : Inv X pins σ H s)
    (q : sp [.ref b] H (fun v H' => v = .str t ∧ Same H H') C8.E0) : wpAny (model X.prog X.w) A (call (.ref f) [.ref b]) (fun v s' => ∃ u, v = .str t u ∧ KJ X pins σ H s') E s := by
  have len := Fn.len _ _ _ _ q
  have e0 := I.env0
  have e1 : Env0 X.prog X.w X.K X.mg X.base A X.stack s H := ⟨hf, e0.mod, e0.bs, e0.bsz, e0.funs, e0.frf, e0.hok, e0.bare⟩
  refine wpAny_call (codeAny_mono (Fn.run A g X.stack s H ⟨[.ref b], []⟩ [.ref b] [.ref b] _ C8.E0 hg hcl hr e1 (by
      have z := hb s [.ref b] I.kIn (by simpa using len)
      simpa using z) (.cons rfl .nil) q) fun r s' hq => ?_)
  cases r with
  | error e => exact False.elim hq
  | ok fl =>
    cases fl with
    | ret w =>
      obtain ⟨z, H', I', rz, ez, sm⟩ := I.after hq
      subst ez
      obtain ⟨t, rfl⟩ := rz
      exact ⟨t, rfl, H', I', sm⟩
    | next => exact False.elim hq
    | brk => exact False.elim hq
    | cont => exact False.elim hq
/-- .. under the repr of a list -/
theorem reprF_own {b dx a i0 C0 dx0 : Addr} {fs fs0 : List (Str × V)} {vs0 : List V} {t : Str} (Fn : FnU X.prog X.w X.K X.mg X.base n f fd ps sp) (hs : PySem.W.findIn X.K (.ref C) "__repr__" = some (some (.ref f))) (hf : PySem.W.isFn X.K (.ref f) = true) (hb : Binds X.K fd ps []) (hC : H b = some (.ins C dx fs)) (ha : H a = some (.lst (.ref i0 :: vs0))) (h0 : H i0 = some (.ins C0 dx0 fs0))
    (q : ∀ H', Same H H' → sp [.ref b] H' (fun v H'' => v = .str t ∧ Same H' H'') C8.E0) :
    RepF X.prog X.w (fun A => (∃ g, A.guards = some g ∧ ∀ b, b ≠ a → Clear g b) ∧ Room n A ∧ A.frames = some X.stack) (KJ X pins σ H) (.ref b) t := by
  rintro base hz A E s Q ⟨⟨g, hg, hcl⟩, hr, hfr⟩ ⟨H1, I, sm⟩ hQ
  have hu := hr.un
  obtain ⟨mA, J, _⟩ := ins_get I.hok (sm _ _ hC)
  obtain ⟨od, J, _⟩ := J.look
  have spc : PySem.W.Looks (model X.prog X.w) s.heap (specialOf (.ref b) "__repr__") (some (.ref f)) := J.type.andThen (PySem.W.looks_findIn I.kIn hs)
  have run := run_own (b := b) (t := t) (E := E) Fn hb hg ⟨a, i0, C0, dx0, fs0, vs0, hcl, sm _ _ ha, sm _ _ h0⟩ hr hfr I (q H1 sm)
  refine wpAny_pyReprUnder_ref (by omega) ?_
  unfold pyReprObjUnder pyReprObjBy
  refine wpAny_bind (wpAny_cRoomFor (by omega) ?_)
  refine wpAny_bind (spc.here ?_)
  have fin : wpAny (model X.prog X.w) A (call (.ref f) ([.ref b] ++ []) >>= fun v => pure (some v)) (fun r s' => ∃ v u, r = some v ∧ v = .str t u ∧ KJ X pins σ H s') E s := wpAny_bind (wpAny_mono run (fun v s' ⟨u, e, H2, I2, s2⟩ => wpAny_pure ⟨v, u, rfl, e, H2, I2, sm.trans s2⟩) fun _ _ h' => h')
  refine wpAny_bind (wpAny_mono (Q := fun r s' => ∃ v u, r = some v ∧ v = .str t u ∧ KJ X pins σ H s') ?_ (fun r s' ⟨v, u, e, ev, kj⟩ => ?_) fun _ _ h' => h')
  · simp only [callSpecialIfBoundBy?, bindSpecialIfBound?]
    refine wpAny_holding (wpAny_bind (wpAny_bind (spc.here ?_)))
    refine wpAny_bind (wpAny_askSetting (wpAny_ite ?_))
    split
    · exact wpAny_bind ((PySem.W.bind_fn I.kIn _ (beq_iff_eq.mp hf)).here (wpAny_pure (by exact fin)))
    · exact wpAny_tryCatch (wpAny_bind ((PySem.W.bind_fn I.kIn _ (beq_iff_eq.mp hf)).here (wpAny_pure (by exact fin))))
  · subst e
    subst ev
    exact wpAny_bind (wpAny_isInstance (T := "str") (b := true) rfl isSubtype_str_str (wpAny_pure ⟨t, u, rfl, hQ _ kj⟩))
end
end FYR

set_option Elab.async false
set_option linter.all false
set_option maxRecDepth 100000
set_option maxHeartbeats 4000000
/-! {x!r} of what runs defs or reads as data; repr of an instance by its own def -/
namespace FYR
open PySem PySem.Spec PyProof.Rows L2
/-- the repr of what W tells is the text told, in X -/
structure RpW (X : Cx) (W : V → Hp → Str → Prop) : Prop where
  run : ∀ {pins : List (Addr × Obj)} {σ : L2.St} {H : Hp} {s : Shared} {v : V} {u : Value} {t : Str} {E : Value → Shared → Prop} {Q : Value → Shared → Prop}, Inv X pins σ H s → RelV v u → W v H t → (∀ s' k, KJ X pins σ H s' → Q (.str t k) s') → wpAny (model X.prog X.w) X.A (pyReprObj u) Q E s
section
variable {X : Cx}
def tFmtW (W : V → Hp → Str → Prop) (te : TE) : TE := fun σ H Q => te σ H fun x H1 => ∃ t : Str, W x H1 t ∧ t.length ≤ sizeLine ∧ ∀ H2, Same H1 H2 → Q (.str t) H2
theorem pe_fmtW {W : V → Hp → Str → Prop} {e : Expr} {te : TE} {pos : Pos} (R : RpW X W) (he : PE X e te) : PE X (.FormattedValue e 114 none pos) (tFmtW W te) := by
  refine ⟨fun pins s σ H Q I h => ?_⟩
  refine wpAny_FormattedValue_repr (thn (he.run pins s σ H _ I h) fun v s1 hv => ?_)
  obtain ⟨x, H1, I1, r1, t, hw, hz, q⟩ := hv
  refine R.run I1 r1 hw fun s' k ⟨H2, I2, sm⟩ => ?_
  exact wpAny_formatField_str ⟨.str t, H2, I2, ⟨_, rfl⟩, q H2 sm⟩ ⟨.str t, H2, I2.tok _, ⟨_, rfl⟩, q H2 sm⟩ hz
/-- data: a list (of data) -/
def WDat (K : PySem.W.Frag) (m : Nat) : V → Hp → Str → Prop := fun v H t => ∃ (a : Addr) (d : PyData), v = .ref a ∧ Dp K H v d ∧ t = d.shown ∧ d.showable = true ∧ d.hasDict = false ∧ d.depth ≤ m ∧ d.shown.length ≤ sizeLine
theorem rpDat0 {m j : Nat} (hgd : X.A.guards = some []) (hr : Room j X.A) (hm : m ≤ 30) : RpW X (WDat X.K m) := ⟨fun {pins σ H s v u t E Q} I rv h q => by
  obtain ⟨a, d, rfl, hd, rfl, h1, h2, h3, h4⟩ := h
  have hu := hr.un
  obtain ⟨as, rd⟩ := Dp.reads I d _ u hd rv
  cases rv
  exact pyReprObj_of_reads rd h1 (PyData.noDict_hsm h2) hgd (by omega) (fun _ _ e => e) (fun h' k tk hk => q _ _ ⟨H, I.kept (t' := tk) hk, Same.refl H⟩) h4⟩
/-- .. while a list of instances is under way -/
theorem rpDatG {m j : Nat} {g : List Code} {H0 : Hp} (hgd : X.A.guards = some g) (ok : OkG H0 g) (hr : Room j X.A) (hm : m ≤ 30) : RpW X (fun v H t => Same H0 H ∧ WDat X.K m v H t) := ⟨fun {pins σ H s v u t E Q} I rv h q => by
  obtain ⟨sm, a, d, rfl, hd, rfl, h1, h2, h3, h4⟩ := h
  have ok' := ok.same sm
  have hu := hr.un
  obtain ⟨as, rd⟩ := Dp.reads I d _ u hd rv
  cases rv
  have rd0 := rd
  cases rd with
  | list k1 k2 k3 k4 =>
    rename_i o vs n xs bs₀
    have hz' : (listText (PyData.shownAll xs)).length ≤ sizeLine := by simpa only [PyData.shown] using h4
    obtain ⟨bs, hb, hk⟩ := ReprAllK.of_readsAll (prog := X.prog) (w := X.w) k4 (by simpa [PyData.showable] using h1) (fun hx => by simp [PyData.hasDict] at h2; rw [h2] at hx; cases hx) (fun t ht => Nat.le_trans (listText_mem_le ht) hz')
    have hna : a ∉ bs := not_mem_of_deeper rd0 (by simp only [PyData.depth]; omega) hb
    simp only [PyData.depth] at h3
    simp only [PyData.shown] at q
    have hca : ∀ b ∈ a :: bs, Clear g b := fun b hm => by
      rcases List.mem_cons.mp hm with rfl | hm
      · exact ok'.clear I rd0
      · obtain ⟨d', as', r', _⟩ := hb b hm
        exact ok'.clear I r'
    obtain ⟨l⟩ := vs
    cases l with
    | nil =>
      have k4' : ReadsAll s.heap [] xs _ := k4
      cases k4'
      simp only [PyData.shownAll, listText_nil] at q
      exact wpAny_pyReprObj_list_empty ⟨o, k1, k2⟩ (by omega) k1 k3 (q _ _ ⟨H, I.tok _, Same.refl H⟩)
    | cons x l =>
      exact wpAny_pyReprObj_listK k1 k2 k3 hna (by simpa using hk.length_eq) (fun i y e => hk.item i y (by simpa using e)) hgd hca (by omega) (fun _ _ e => e) (fun h' k tk hk => q _ _ ⟨H, I.kept (t' := tk) hk, Same.refl H⟩) hz'
  | tuple k1 k2 k3 k4 =>
    rename_i o vs n xs
    have hz' : (tupleText (PyData.shownAll xs)).length ≤ sizeLine := by simpa only [PyData.shown] using h4
    obtain ⟨bs, hb, hk⟩ := ReprAllK.of_readsAll (prog := X.prog) (w := X.w) k4 (by simpa [PyData.showable] using h1) (fun hx => by simp [PyData.hasDict] at h2; rw [h2] at hx; cases hx) (fun t ht => Nat.le_trans (tupleText_mem_le ht) hz')
    have hna : a ∉ bs := not_mem_of_deeper rd0 (by simp only [PyData.depth]; omega) hb
    simp only [PyData.depth] at h3
    simp only [PyData.shown] at q
    have hca : ∀ b ∈ a :: bs, Clear g b := fun b hm => by
      rcases List.mem_cons.mp hm with rfl | hm
      · exact ok'.clear I rd0
      · obtain ⟨d', as', r', _⟩ := hb b hm
        exact ok'.clear I r'
    exact wpAny_pyReprObj_tupleK k1 k2 k3 hna hk hgd hca (by omega) (fun _ _ e => e) (fun h' k tk hk => q _ _ ⟨H, I.kept (t' := tk) hk, Same.refl H⟩) hz'
  | dict k1 k2 k3 k4 k5 => simp [PyData.hasDict] at h2⟩
end
end FYR

set_option Elab.async false
set_option linter.all false
set_option maxRecDepth 100000
set_option maxHeartbeats 8000000
namespace FY
open PySem L2 FYR
/-! ## repr of a station -/
theorem Nice.shl {n w : Nat} {d : PyData} (h : Nice n w d) : d.shown.length ≤ 15 * w + 13 := by
  have h2 := h.wt
  have h3 := PyData.shown_le 13 (by decide) d (PyData.leavesShort_of_canLay0 13 d h.lay h.si)
  omega
def stdD (t : Stn) : PyData := .list (t.stgs.map toD)
theorem std_nice {t : Stn} (h : t.ok) : Nice 5 812 (stdD t) := by
  have := h.o2
  have := h.m2
  refine nice_lst (n := 4) (w := 202) (m := 4) (fun d hd => ?_) (by rw [List.length_map]; omega)
  obtain ⟨s, hs, rfl⟩ := List.mem_map.mp hd
  exact to_nice (h.sg s hs) (by omega) (by omega)
/-- a station's text -/
def stTx (t : Stn) : Str := Str.empty ++ ("Station(" : Str) ++ ((toString (t.ins : Int) : String) : Str) ++ (", " : Str) ++ ((toString (t.outs : Int) : String) : Str) ++ (", " : Str) ++ (stdD t).shown ++ (")" : Str)
def tsI (k : Fin 101) : Bool := decide (((toString ((k.val : Nat) : Int) : String) : Str).length ≤ 3)
theorem tsIs : ∀ k : Fin 101, tsI k = true := by decide +kernel
theorem ts_len {k : Nat} (h : k ≤ 100) : ((toString (k : Int) : String) : Str).length ≤ 3 := of_decide_eq_true (tsIs ⟨k, by omega⟩)
theorem stTx_len {t : Stn} (h : t.ok) : (stTx t).length ≤ 12500 := by
  have h1 := (std_nice h).shl
  have h2 := ts_len (k := t.ins) (by have := h.i2; omega)
  have h3 := ts_len (k := t.outs) (by have := h.o2; omega)
  have e1 : ("Station(" : Str).length = 8 := by decide
  have e2 : (", " : Str).length = 2 := by decide
  have e3 : (")" : Str).length = 1 := by decide
  have e0 : Str.empty.length = 0 := by decide
  unfold stTx
  simp only [strLen_append, e0, e1, e2, e3]
  omega
theorem ToldF.dp {K : PySem.W.Frag} {H0 : Hp} {L : Addr} {H : Hp} {v : V} {s : Sg} (h : ToldF H0 L H v s) : Dp K H v (toD s) := by
  obtain ⟨a, q, ws, e, h1, h2, h3, h4, pr⟩ := h
  exact ToldA.dp ⟨a, q, ws, e, h1, h4, pr⟩
def spStRS (C : Addr) : Sp := fun vs H Q _ => ∃ (b : Addr) (t : Stn), vs = [.ref b] ∧ StnA C H (.ref b) t ∧ t.ok ∧ ∀ H', Same H H' → Q (.str (stTx t)) H'
section
variable {P : Program} {w : World} {K : PySem.W.Frag} {mg : Str → Option Value} {base : Heap} {aS a1 a2 aL aT : Addr} {f : Addr} {fd : FuncData} {C CD CY : Addr} {mc : Value}
abbrev s_Station___repr__ : Stmt := inClass (top 25) 8
abbrev N_Station___repr__ : List Str := ["self"]
theorem sc_Station___repr__ : FnScope N_Station___repr__ ["self"] (defScope s_Station___repr__) := ⟨rfl, rfl, rfl, by decide +kernel, rfl, by decide +kernel, by decide +kernel⟩
theorem ok_Station_reprS (F : Fun K "__repr__" "Station.__repr__" s_Station___repr__ f fd) (S : StC K mg C) (m_standings : C8.Met P w K mg base 1 C "standings" (spStandF C) []) : FnG P w K mg base 2 f fd ["self"] (spStRS C) := by
  refine fnG_of F sc_Station___repr__ (fun vs H Q E h => ?_) (fun cdv A outer s H vs Q E hgd hr h => ?_)
  · obtain ⟨b, t, rfl, _⟩ := h
    rfl
  obtain ⟨b, t, rfl, sa, tok, q⟩ := h
  refine ⟨_, (pss_one (ps_ret (pe_joined (.cons pe_str (.cons (pe_fmt (kFld K rfl (pv 0))) (.cons pe_str (.cons (pe_fmt (kFld K rfl (pv 0))) (.cons pe_str (.cons (pe_fmtW (rpDat0 (m := 5) hgd hr (by decide)) (C8.pe_mt0 m_standings hr (by decide) (pv 0))) (.cons pe_str .nil)))))))))), ?_⟩
  have hL := stTx_len tok
  have hz : ∀ n : Nat, n ≤ 12500 → n ≤ sizeLine := fun n h => Nat.le_trans h (by decide)
  unfold stTx at hL
  have i2 := tok.i2
  have o2 := tok.o2
  have small : ∀ n : Nat, n ≤ 2 → ((n : Int)).natAbs.log2 < 1920 := fun n h => by
    have : n = 0 ∨ n = 1 ∨ n = 2 := by omega
    rcases this with rfl | rfl | rfl <;> decide
  obtain ⟨a, dx, p, ps, e, h1, h2, pr⟩ := id sa
  cases e
  simp only [strLen_append] at hL
  refine ⟨_, rfl, hz _ (by simp only [strLen_append]; omega), _, rfl, b, C, dx, _, _, rfl, h1, S.cl, S.nI, rfl, .inr ⟨_, rfl, small _ i2, _, rfl, hz _ (by simp only [strLen_append]; omega), _, rfl, hz _ (by simp only [strLen_append]; omega), _, rfl, b, C, dx, _, _, rfl, h1, S.cl, S.nO, rfl, .inr ⟨_, rfl, small _ o2, _, rfl, hz _ (by simp only [strLen_append]; omega), _, rfl, hz _ (by simp only [strLen_append]; omega), _, rfl, b, dx, _, rfl, h1, rfl, _, t, rfl, sa, by have := tok.m2; omega, fun H' p' ws sm np hp' pt => ?_⟩⟩⟩
  have nc := std_nice tok
  have hd := nc.shl
  have hsz : (stdD t).shown.length ≤ sizeLine := hz _ (by omega)
  exact ⟨(stdD t).shown, ⟨p', stdD t, rfl, .lst (SqL.of hp') (dpall (fun _ _ r => r.dp) pt), rfl, nc.sh, nc.nd, nc.dep, hsz⟩, hsz, fun H2 s2 => ⟨_, rfl, hz _ (by simp only [strLen_append]; omega), _, rfl, hz _ (by simp only [strLen_append]; omega), q H2 (sm.trans s2)⟩⟩
end
end FY


set_option Elab.async false
set_option linter.all false
set_option maxRecDepth 100000
set_option maxHeartbeats 8000000
namespace FYR
open PySem PySem.Spec PyProof.Rows L2
theorem pe_callG0 {X : Cx} {k : Nat} {f : Addr} {fd : FuncData} {ps : List Str} {sp : Sp} {x : Str} {p pos : Pos} (F : FnG X.prog X.w X.K X.mg X.base k f fd ps sp) (hgd : X.A.guards = some []) (hr : Room k X.A) (hg : Gl X x) (hm : X.mg x = some (.ref f)) (hk : PySem.W.keepIn X.K (.ref f) = true) (hb : Binds X.K fd ps [])
    (hdb : (x == ("__debug__" : Str)) = false := by decide) : PE X (.Call (.Name x p) [] [] pos) (tCall sp [] C8.E0 tNil) := by
  refine ⟨fun pins s σ H Q I h => ?_⟩
  refine wpAny_Call_Name_kw (ld_glob I hg hm ?_ hdb)
  refine PySem.W.callWith_K0 I.kIn hk ?_
  have q : sp [] H Q C8.E0 := h
  have hl : ([] : List Value).length = ps.length := F.len _ _ _ _ q
  refine wpAny_call (codeAny_mono (F.run X.A X.stack s H ⟨[], []⟩ [] [] Q C8.E0 hgd hr I.env0 (by have z := hb s [] I.kIn (by simpa using hl); simpa using z) .nil q) fun r s' hq => ?_)
  cases r with
  | error e => exact False.elim hq
  | ok fl =>
    cases fl with
    | ret u => exact I.after hq
    | next => exact False.elim hq
    | brk => exact False.elim hq
    | cont => exact False.elim hq
end FYR
namespace FY
open PySem L2 FYR
/-! ## the law's own defs, joined -/
theorem pe_cG0 {X : Cx} {k j : Nat} {x : Str} {sp : Sp} {p pos : Pos} (c : CalG X.prog X.w X.K X.mg X.base k x sp) (hgd : X.A.guards = some []) (hr : Room j X.A) (hk : k ≤ j) (hg : Gl X x) (hdb : (x == ("__debug__" : Str)) = false := by decide) : PE X (.Call (.Name x p) [] [] pos) (tCall sp [] C8.E0 tNil) := by
  obtain ⟨f, fd, ps, F, hm, kp, b⟩ := c.ex
  exact pe_callG0 F hgd (hr.mono hk) hg hm kp b hdb
theorem StnA.lstU {C : Addr} {H : Hp} {v : V} {t : Stn} {q : Addr} {xs : List V} {o : HO} (h : StnA C H v t) (hq : H q = some (.lst xs)) : StnA C (upd H q o) v t := by
  obtain ⟨a, dx, p, ps, rfl, h1, h2, pr⟩ := h
  have n : ∀ {b : Addr} {u : HO}, H b = some u → u ≠ .lst xs → b ≠ q := fun e n z => by rw [z, hq] at e; exact n (Option.some.inj e).symm
  refine ⟨a, dx, p, ps, rfl, (upd_ne (n h1 (fun z => nomatch z))).trans h1, (upd_ne (n h2 (fun z => nomatch z))).trans h2, sgA_all (fun b xs' e => (upd_ne (n e (fun z => nomatch z))).trans e) pr⟩
theorem StnA.same {C : Addr} {H H' : Hp} {v : V} {t : Stn} (h : StnA C H v t) (s : Same H H') : StnA C H' v t := h.ext (ext_of s)
theorem StnA.kp {C p : Addr} {H H' : Hp} {v : V} {t : Stn} (h : StnA C H v t) (po : Pot p H) (k : Kp p H H') : StnA C H' v t := by
  obtain ⟨a, dx, q, ps, rfl, h1, h2, pr⟩ := h
  have n : ∀ {b : Addr} {u : HO}, H b = some u → (∀ xs, u ≠ .lst xs) → b ≠ p := fun e n z => by
    obtain ⟨x, y, h, _⟩ := po
    rw [z, h] at e
    exact n _ (Option.some.inj e).symm
  exact ⟨a, dx, q, ps, rfl, k _ _ (n h1 (fun _ z => nomatch z)) h1, k _ _ (n h2 (fun _ z => nomatch z)) h2, sgA_all (po.tups k) pr⟩
theorem bt_any : bootBuiltins "any" = some (.builtin "any") := by decide +kernel
theorem cps_app (a b : Str) : (a ++ b).cps.toList = a.cps.toList ++ b.cps.toList := by
  show (a.cps ++ b.cps).toList = _
  simp
theorem shown_st (t : Stn) : ("Station(" : Str) ++ ((PyData.int (t.ins : Nat)).shown ++ (", " : Str) ++ (PyData.int (t.outs : Nat)).shown ++ (", " : Str) ++ (stdD t).shown) ++ (")" : Str) = stTx t := by
  unfold stTx
  rw [pos_sh, pos_sh]
  apply str_ext
  simp only [cps_app, List.append_assoc]
  rfl
theorem SgA.tv {p : Addr} {H : Hp} {v : V} {s : Sg} (hp : ∀ xs, H p ≠ some (.tup xs)) (h : SgA H v s) : Tv p H v (sgD s) := by
  obtain ⟨a, q, ws, rfl, h1, h2, pr⟩ := h
  exact .tup (fun z => hp _ (z ▸ h1)) h1 (.cons (.str _) (.cons (.tup (fun z => hp _ (z ▸ h2)) h2 (rwA_tvAll hp pr)) .nil))
theorem sgA_tvAll {p : Addr} {H : Hp} (hp : ∀ xs, H p ≠ some (.tup xs)) : ∀ {vs : List V} {ss : List Sg}, Paired (SgA H) vs ss → TvAll p H vs (ss.map sgD)
  | _, _, .nil => .nil
  | _, _, .cons a b => .cons (a.tv hp) (sgA_tvAll hp b)
theorem sgD_sgs : ∀ ss : List Sg, Paired SgD (ss.map sgD) ss
  | [] => .nil
  | s :: r => .cons ⟨_, rfl, rfl, rfl⟩ (sgD_sgs r)
def spRight (Pt Pb : Addr) : Sp := fun vs H Q _ => ∃ p : Addr, vs = [.ref p] ∧ Pot p H ∧ LamX.Tabs (TTb Pt Pb) H ∧ ∀ H', KpN p H H' → Pot p H' → LamX.Tabs (TTb Pt Pb) H' → Q (.bl true) H'
section
variable {P : Program} {w : World} {K : PySem.W.Frag} {mg : Str → Option Value} {base : Heap} {aS a1 a2 aL aT : Addr} {f : Addr} {fd : FuncData} {C CI CO CS Pt Pb : Addr}
abbrev s_law_right : Stmt := top 43
abbrev N_law_right : List Str := ["_law_pot_here", "_law_model_here", "_law_found", "_law_made_here", "_law_again", "_law_shown", "_law_others", "_law_tuples", "_law_told", "_law_rows", "_law_one", "_law_other", "_law_part"]
theorem sc_law_right : FnScope N_law_right ["_law_pot_here"] (defScope s_law_right) := ⟨rfl, rfl, rfl, by decide +kernel, rfl, by decide +kernel, by decide +kernel⟩
theorem ok_law_right (F : Fun K "_law_right" "_law_right" s_law_right f fd) (T : Txt K mg aS a1 a2) (ks : ∃ o, K.lookup sysModules = some o) (hAny : mg "any" = none) (mkx : MakX P w K mg base 6 "Station" C (spStInitX C CI CO CS)) (mk3 : MakXK P w K mg base 6 "Station" C (spStInitX C CI CO CS) ["outs", "ins", "standings"] [0, 2, 1, 3]) (rR : RepI P w K mg base 2 C (spStRS C)) (pr_ins : Prp P w K mg base 1 C "ins" (spInsS C)) (pr_outs : Prp P w K mg base 1 C "outs" (spOutsS C)) (m_Station_standings : C8.Met P w K mg base 1 C "standings" (spStandF C) []) (lS : LenC P w K mg base 1 C (spStLen C)) (eI : EqI P w K mg base 1 C (spEqS C)) (eS : EqC P w K mg base 1 C (StEq C)) (c__law_model : C8.Cal P w K mg base 5 "_law_model" spModel []) (c__law_all_unlike : C8.Cal P w K mg base 4 "_law_all_unlike" spAllUn []) (c__law_made : C8.Cal P w K mg base 8 "_law_made" (spMade C) []) (c__law_rows_right : CalG P w K mg base 12 "_law_rows_right" (spRowsR C Pt Pb)) (c__law_refused_right : CalG P w K mg base 12 "_law_refused_right" (spRefused Pt Pb)) (c__law_basics_right : CalG P w K mg base 4 "_law_basics_right" spBasics) : FnG P w K mg base 14 f fd ["_law_pot_here"] (spRight Pt Pb) := by
  refine fnG_of F sc_law_right (fun vs H Q E h => ?_) (fun cdv A outer s0 H vs Q E hgd hr h => ?_)
  · obtain ⟨p, rfl, _⟩ := h
    rfl
  obtain ⟨p, rfl, p0, tb0, q⟩ := h
  refine ⟨_, (pss_cons (ps_for PassesOwn.never rfl (kList K rfl (pe_lst (pa_cons (C8.pe_c c__law_model hr (by decide) rfl (pa_cons (pv 0) pa_nil)) pa_nil))) (pg_name (i := 1) sc_law_right.nd rfl (Or.inl rfl))
        (pss_cons (ps_setLc (i := 2) (own := [("_law_told", 8), ("_law_rows", 9)]) rfl sc_law_right.nd rfl rfl (sw_true rfl rfl rfl (by decide +kernel)) (kList K rfl (pe_ix (kIxT K rfl) (pv 1) pe_int (fun _ _ => rfl))) (blkOk_by (N := N_law_right) (sc := defScope s_law_right) (by decide +kernel)) (fun _ _ _ _ _ => (kTupG (n := 2) K rfl rfl (pgs_cons (pg_name (i := 8) sc_law_right.nd rfl (Or.inl rfl)) (pgs_cons (pg_name (i := 9) sc_law_right.nd rfl (Or.inl rfl)) pgs_nil)))) (fun _ _ _ _ _ => pts_nil) (fun _ _ _ _ _ => (pe_tup (pa_cons (pv 8) (pa_cons (pe_callTy (kListOf K rfl) rfl T.b_list bt_list (pa_cons (pv 9) pa_nil)) pa_nil)))))
        (pss_cons (ps_set (i := 3) sc_law_right.nd rfl (Or.inr rfl) (pe_mkX mkx hr (by decide) rfl passF (pa_cons (pe_ix (kIxT K rfl) (pv 1) pe_int (fun _ _ => rfl)) (pa_cons (pe_ix (kIxT K rfl) (pv 1) pe_int (fun _ _ => rfl)) (pa_cons (pv 2) pa_nil)))))
        (pss_cons (ps_set (i := 4) sc_law_right.nd rfl (Or.inl rfl) (pe_mkXK mk3 hr (by decide) rfl passF (pk_cons (pe_ix (kIxT K rfl) (pv 1) pe_int (fun _ _ => rfl)) (pk_cons (pe_ix (kIxT K rfl) (pv 1) pe_int (fun _ _ => rfl)) (pk_cons (pe_callTy (kTupOf K rfl) rfl T.b_tuple bt_tuple (pa_cons (pe_ix (kIxT K rfl) (pv 1) pe_int (fun _ _ => rfl)) pa_nil)) pk_nil)))))
        (pss_cons (ps_expr (kBm0 K rfl PySem.F.plainAttrs_list PySem.F.slot_list_clear PySem.F.type_list_clear mt_clear (pe_ix (kIxT K rfl) (pe_ix (kIxL K rfl) (pv 2) pe_int (fun _ _ => rfl)) pe_int (fun _ _ => rfl))))
        (pss_cons (ps_expr (kBm K rfl PySem.F.plainAttrs_list PySem.F.slot_list_append PySem.F.type_list_append mt_append (pv 2) (pa_cons pe_non pa_nil)))
        (pss_cons (ps_set (i := 5) sc_law_right.nd rfl (Or.inl rfl) (pe_op op_add_str (pe_op op_add_str pe_str (kJoin K rfl pe_str (pe_lc (own := [("_law_part", 12)]) rfl sc_law_right.nd (kTup K rfl (pv 1)) (blkOk_by (N := N_law_right) (sc := defScope s_law_right) (by decide +kernel)) (fun _ _ _ _ _ => (pg_name (i := 12) sc_law_right.nd rfl (Or.inl rfl))) (fun _ _ _ _ _ => pts_nil) (fun _ _ _ _ _ => (pe_callB (kReprT K w rfl rfl ks hgd hr) rfl T.b_repr bt_repr (pa_cons (pv 12) pa_nil)))))) pe_str))
        (pss_cons (ps_if (pt_cmpR op_ne (pe_callB (kReprT K w rfl rfl ks hgd hr) rfl T.b_repr bt_repr (pa_cons (pe_lst (pa_cons (kPrp pr_ins hr (by decide) (pv 3)) (pa_cons (kPrp pr_outs hr (by decide) (pv 3)) (pa_cons (C8.pe_mt0 m_Station_standings hr (by decide) (pv 3)) pa_nil)))) pa_nil)) (pe_callB (kReprT K w rfl rfl ks hgd hr) rfl T.b_repr bt_repr (pa_cons (pe_callTy (kListOf K rfl) rfl T.b_list bt_list (pa_cons (pv 1) pa_nil)) pa_nil)) (nomark _))
        (pss_one (ps_ret pe_bl))
        pss_nil)
        (pss_cons (ps_if (pt_cmpR op_ne (pe_callB (kLenO lS hr (by decide)) rfl T.b_len bt_len (pa_cons (pv 3) pa_nil)) (pe_callB (kLen K rfl) rfl T.b_len bt_len (pa_cons (pe_ix (kIxT K rfl) (pv 1) pe_int (fun _ _ => rfl)) pa_nil)) (nomark _))
        (pss_one (ps_ret pe_bl))
        pss_nil)
        (pss_cons (ps_expr (kBm0 K rfl PySem.F.plainAttrs_list PySem.F.slot_list_clear PySem.F.type_list_clear mt_clear (pe_ix (kIxT K rfl) (pe_ix (kIxL K rfl) (C8.pe_mt0 m_Station_standings hr (by decide) (pv 3)) pe_int (fun _ _ => rfl)) pe_int (fun _ _ => rfl))))
        (pss_cons (ps_expr (kBm0 K rfl PySem.F.plainAttrs_list PySem.F.slot_list_clear PySem.F.type_list_clear mt_clear (C8.pe_mt0 m_Station_standings hr (by decide) (pv 3))))
        (pss_cons (ps_setLc (i := 6) (own := [("_law_one", 10)]) rfl sc_law_right.nd rfl rfl (sw_true rfl rfl rfl (by decide +kernel)) (kList K rfl (C8.pe_c c__law_all_unlike hr (by decide) rfl (pa_cons (pv 0) (pa_cons (pv 1) pa_nil)))) (blkOk_by (N := N_law_right) (sc := defScope s_law_right) (by decide +kernel)) (fun _ _ _ _ _ => (pg_name (i := 10) sc_law_right.nd rfl (Or.inl rfl))) (fun _ _ _ _ _ => pts_nil) (fun _ _ _ _ _ => (C8.pe_c c__law_made hr (by decide) rfl (pa_cons (pv 10) pa_nil))))
        (pss_cons (ps_if (pt_not (PW.pt (pw_and (pt_cmpR (kEqI eI hr (by decide)) (pv 3) (pv 4) (nomark _)) (pw_and (pt_cmpR op_eq (pe_callB (kReprI rR hgd hr (by decide)) rfl T.b_repr bt_repr (pa_cons (pv 3) pa_nil)) (pv 5) (nomark _)) (pw_and1 (pt_not (pt_cmpR (kEqI eI hr (by decide)) (pv 3) (pv 5) (nomark _))))))))
        (pss_one (ps_ret pe_bl))
        pss_nil)
        (pss_cons (ps_if (pt_val (pe_callB (cr_any rfl) rfl hAny bt_any (pa_cons (pe_lc (own := [("_law_other", 11)]) rfl sc_law_right.nd (kList K rfl (pv 6)) (blkOk_by (N := N_law_right) (sc := defScope s_law_right) (by decide +kernel)) (fun _ _ _ _ _ => (pg_name (i := 11) sc_law_right.nd rfl (Or.inl rfl))) (fun _ _ _ _ _ => pts_nil) (fun _ _ _ _ _ => (pe_or (pe_cmpR (kEqI eI hr (by decide)) (pv 3) (pv 11) (nomark _)) (pe_one (pe_cmpR (kEqI eI hr (by decide)) (pv 11) (pv 3) (nomark _)))))) pa_nil)))
        (pss_one (ps_ret pe_bl))
        pss_nil)
        (pss_cons (ps_set (i := 7) sc_law_right.nd rfl (Or.inl rfl) (C8.pe_c c__law_made hr (by decide) rfl (pa_cons (pe_tup (pa_cons (pe_ix (kIxT K rfl) (pv 1) pe_int (fun _ _ => rfl)) (pa_cons (pe_ix (kIxT K rfl) (pv 1) pe_int (fun _ _ => rfl)) (pa_cons (pe_callTy (kTupOf K rfl) rfl T.b_tuple bt_tuple (pa_cons (pe_lc (own := [("_law_told", 8), ("_law_rows", 9)]) rfl sc_law_right.nd (kList K rfl (pe_ix (kIxT K rfl) (pv 1) pe_int (fun _ _ => rfl))) (blkOk_by (N := N_law_right) (sc := defScope s_law_right) (by decide +kernel)) (fun _ _ _ _ _ => (kTupG (n := 2) K rfl rfl (pgs_cons (pg_name (i := 8) sc_law_right.nd rfl (Or.inl rfl)) (pgs_cons (pg_name (i := 9) sc_law_right.nd rfl (Or.inl rfl)) pgs_nil)))) (fun _ _ _ _ _ => pts_nil) (fun _ _ _ _ _ => (pe_tup (pa_cons (pv 8) (pa_cons (pe_callTy (kTupOf K rfl) rfl T.b_tuple bt_tuple (pa_cons (pv 9) pa_nil)) pa_nil))))) pa_nil)) pa_nil)))) pa_nil)))
        (pss_one (ps_if (PW.pt (pw_or (pt_cmpR (kNeO eS hr (by decide)) (pv 7) (pv 3) (nomark _)) (pw_or (pt_not (pt_val (pe_cG c__law_rows_right hgd hr (by decide) rfl (pa_cons (pv 3) (pa_cons (pv 1) pa_nil))))) (pw_or1 (pt_not (pt_val (pe_cG c__law_refused_right hgd hr (by decide) rfl (pa_cons (pv 0) (pa_cons (pv 1) pa_nil)))))))))
        (pss_one (ps_ret pe_bl))
        pss_nil)))))))))))))))))
        (pss_one (ps_ret (pe_cG0 c__law_basics_right hgd hr (by decide) rfl)))), ?_⟩
  refine seq_splitR (fun τ G => ∃ x1 x2 x3 x4 x5 x6 x7 x8 x9 x10 x11 x12, τ = [some (.ref p), x1, x2, x3, x4, x5, x6, x7, x8, x9, x10, x11, x12] ∧ KpN p H G ∧ Pot p G ∧ LamX.Tabs (TTb Pt Pb) G) (fun D1 hrt hD1 => ?_) ?_
  · refine ⟨_, rfl, ?_⟩
    dsimp only [tNil]
    refine ⟨p, rfl, p0, fun v t H1 tok tv1 k1 p1 => ⟨sz rfl, fun Lm hLm => ?_⟩⟩
    have n1 := same_new hLm (.lst [v])
    refine ⟨Lm, rfl, ⟨_, SqL.of upd_same⟩, for_it (D := D1) walk_list (fun i τ G => ∃ x1 x2 x3 x4 x5 x6 x7 x8 x9 x10 x11 x12, τ = [some (.ref p), x1, x2, x3, x4, x5, x6, x7, x8, x9, x10, x11, x12] ∧ KpN p H G ∧ Pot p G ∧ LamX.Tabs (TTb Pt Pb) G ∧ G Lm = some (.lst [v]) ∧ Tv p G v (stD t)) ⟨_, _, _, _, _, _, _, _, _, _, _, _, rfl, KpN.kp (k1.trans (Kp.of n1)), p1.same n1, (tabs_kp p0 k1 tb0).ext n1, upd_same, tv1.same n1⟩ (fun i τ G _ ⟨_, _, _, _, _, _, _, _, _, _, _, _, _, _, _, _, e, _⟩ => SqL.of e) ?_ ?_⟩
    · rintro i x τ G0 G1 hi ⟨x1, x2, x3, x4, x5, x6, x7, x8, x9, x10, x11, x12, rfl, kG, pG, tbG, hLG, tvG⟩ ⟨rfl, hx⟩
      obtain rfl : x = v := by
        have : i = 0 := by simp at hi; exact hi
        subst this
        exact (Option.some.inj hx).symm
      obtain ⟨a, F0, us, rfl, na, ha, nF, hF, hus⟩ := st_tv tvG
      have m1 := tok.m1
      have m4 := tok.m2
      have lus := hus.len
      rw [List.length_map] at lus
      have np : G1 p ≠ none := fun e => by
        obtain ⟨x, y, h, _⟩ := pG
        rw [h] at e
        cases e
      -- found
      refine seq_splitR (fun τ G => ∃ (Fd : Addr) (fs : List V), τ = [some (.ref p), some (.ref a), some (.ref Fd), x3, x4, x5, x6, x7, x8, x9, x10, x11, x12] ∧ Same G1 G ∧ G1 Fd = none ∧ G Fd = some (.lst fs) ∧ Paired (ToldF G1 Fd G) fs t.stgs) (fun D2 hrt2 hD2 => ?_) ?_
      · refine ⟨_, rfl, _, _, _, _, rfl, rfl, SqT.of ha, atI_nat (j := 2) rfl, F0, rfl, ⟨_, SqL.of hF⟩, fun D hD => lc_it walk_list (fun j G => Same G1 G ∧ ∃ fs, G D = some (.lst fs) ∧ Paired (ToldF G1 D G) fs (t.stgs.take j)) ⟨same_new hD _, [], upd_same, .nil⟩ (fun j G _ z => SqL.of (z.1 _ _ hF)) ?_ ?_⟩
        · rintro j x G2 G3 hj ⟨sm, fs, hd, pu⟩ ⟨rfl, hx⟩
          obtain ⟨dd, hdd, tvx⟩ := (hus.same sm).at hx
          obtain ⟨sg, hsg, rfl⟩ := List.getElem?_map_some hdd
          obtain ⟨e, qq, ws, rfl, _, he, _, hq, hws⟩ := to_tv tvx
          have prs := rwA_tvs hws
          have hlu := paired_len pu
          have hil := lt_len hsg
          refine ⟨_, _, rfl, SqT.of he, rfl, _, _, rfl, _, _, rfl, rfl, rfl, tyI ⟨_, rfl, _, rfl, qq, ws, rfl, .inl (SqL.of hq), fun q1 hq1 => ⟨sz rfl, fun q2 hq2 => ?_⟩⟩⟩
          have n1' := same_new hq1 (.lst ws)
          have n2' := same_new hq2 (.tup [.str sg.reads.s, .ref q1])
          have hd2 := n2' _ _ (n1' _ _ hd)
          have nqD : q1 ≠ D := fun z => by rw [z, hd] at hq1; cases hq1
          have kk : Kp D G3 (upd (upd (upd G3 q1 (.lst ws)) q2 (.tup [.str sg.reads.s, .ref q1])) D (.lst (fs ++ [.ref q2]))) := fun b o n e => by
            rw [upd_ne n]; exact n2' _ _ (n1' _ _ e)
          have tu : Tups G3 (upd (upd (upd G3 q1 (.lst ws)) q2 (.tup [.str sg.reads.s, .ref q1])) D (.lst (fs ++ [.ref q2]))) := (Tups.of (n1'.trans' n2')).trans (tups_at hd2)
          have nt : ∀ xs, G3 D ≠ some (.tup xs) := fun xs e => by rw [hd] at e; cases e
          refine ⟨_, hd2, ?_, same_at ((sm.trans' n1').trans' n2') hD, fs ++ [.ref q2], upd_same, ?_⟩
          · rw [hlu, List.length_take]
            exact Nat.lt_of_lt_of_le (show _ < 100000 by omega) (by decide)
          · rw [List.take_add_one, hsg]
            refine paired_app (toldF_all kk nt pu) (.cons ⟨q2, q1, ws, rfl, tups_at hd2 _ _ upd_same, none_ofS sm hq1, nqD, ?_, rwA_all tu prs⟩ .nil)
            rw [upd_ne nqD]
            exact n2' _ _ upd_same
        · rintro G2 ⟨sm, fs, hd, pu⟩
          rw [lus, List.take_length] at pu
          exact hD2 _ _ ⟨D, fs, rfl, sm, hD, hd, pu⟩
      rintro τ G2 ⟨Fd, fs, rfl, s2, fFd, hFd, pfs⟩
      have p2' := pG.same s2
      have nFd : Fd ≠ p := pG.ne fFd
      -- made
      refine seq_splitR (fun τ G => ∃ m : Addr, τ = [some (.ref p), some (.ref a), some (.ref Fd), some (.ref m), x4, x5, x6, x7, x8, x9, x10, x11, x12] ∧ Same G2 G ∧ StnA C G (.ref m) t) (fun D2 hrt2 hD2 => ?_) ?_
      · have ha2 := s2 _ _ ha
        refine ⟨_, rfl, _, _, _, _, rfl, rfl, SqT.of ha2, atI_nat (j := 0) rfl, _, rfl, _, _, _, _, rfl, rfl, SqT.of ha2, atI_nat (j := 1) rfl, _, rfl, fun b db hb hdb hn => ?_⟩
        refine mk_q (Q := fun v G => D2.nx [some (.ref p), some (.ref a), some (.ref Fd), some v, x4, x5, x6, x7, x8, x9, x10, x11, x12] G) (p := p) (.int _) (.int _) (.lst nFd hFd (toldF_tv p2'.nt np pfs)) (sgd_sh tok.sg (sgD_tos _)) ?_ b db hb hdb hn
        exact .inr (.inr (.inr (.inr ⟨t, tok, rfl, rfl, rfl, sgD_tos _, fun H' c _ s st => hD2 _ _ ⟨c, rfl, s, st⟩⟩)))
      rintro τ G3 ⟨m, rfl, s3, sa3⟩
      -- again
      refine seq_splitR (fun τ G => ∃ m2 : Addr, τ = [some (.ref p), some (.ref a), some (.ref Fd), some (.ref m), some (.ref m2), x5, x6, x7, x8, x9, x10, x11, x12] ∧ Same G3 G ∧ StnA C G (.ref m2) t) (fun D2 hrt2 hD2 => ?_) ?_
      · have s13 := s2.trans' s3
        have ha3 := s13 _ _ ha
        refine ⟨_, rfl, _, _, _, _, rfl, rfl, SqT.of ha3, atI_nat (j := 1) rfl, _, rfl, _, _, _, _, rfl, rfl, SqT.of ha3, atI_nat (j := 0) rfl, _, rfl, _, _, _, _, rfl, rfl, SqT.of ha3, atI_nat (j := 2) rfl, F0, us, rfl, .inl ⟨SqL.of (s13 _ _ hF), fun Tt hTt => ⟨rfl, rfl, fun b db hb hdb hn => ?_⟩⟩⟩
        have nT := same_new hTt (.tup us)
        refine mk_q (Q := fun v G => D2.nx [some (.ref p), some (.ref a), some (.ref Fd), some (.ref m), some v, x5, x6, x7, x8, x9, x10, x11, x12] G) (p := p) (d3 := .tuple (t.stgs.map toD)) (.int _) (.int _) (.tup ((pG.same s13).ne hTt) upd_same ((hus.same s13).same nT)) (sgd_sh tok.sg (sgD_tos _)) ?_ b db hb hdb hn
        exact .inr (.inr (.inr (.inr ⟨t, tok, rfl, rfl, rfl, sgD_tos _, fun H' c _ s st => hD2 _ _ ⟨c, rfl, nT.trans' s, st⟩⟩)))
      rintro τ G4 ⟨m2, rfl, s4, sb4⟩
      have s34 := s3.trans' s4
      have sa4 := sa3.same s4
      -- the list is changed
      refine seq_splitR (fun τ G => τ = [some (.ref p), some (.ref a), some (.ref Fd), some (.ref m), some (.ref m2), x5, x6, x7, x8, x9, x10, x11, x12] ∧ Same G1 G ∧ StnA C G (.ref m) t ∧ StnA C G (.ref m2) t ∧ LamX.Tabs (TTb Pt Pb) G ∧ ∃ fs, G Fd = some (.lst fs) ∧ fs.length ≤ 4) (fun D2 hrt2 hD2 => ?_) ?_
      · obtain ⟨S0, hS0⟩ : ∃ S0, t.stgs[0]? = some S0 := ⟨_, List.getElem?_eq_getElem (by omega)⟩
        obtain ⟨f0, hf0, b, qq, ws, rfl, h1, h2, h3, h4, h5⟩ := paired_atS pfs hS0
        have hFd4 := s34 _ _ hFd
        have hqq := s34 _ _ h4
        refine ⟨_, rfl, _, _, _, _, rfl, rfl, SqL.of hFd4, atI_nat (j := 0) hf0, _, _, _, _, rfl, rfl, SqT.of (s34 _ _ h1), atI_nat (j := 1) rfl, .inl ⟨rfl, _, SqL.of hqq⟩, qq, ws, rfl, rfl, hqq, ?_⟩
        exact hD2 _ _ ⟨rfl, same_at (s2.trans' s34) h2, sa4.lstU hqq, sb4.lstU hqq, tabs_at ((tbG.ext s2).ext s34) (fun _ _ => trivial) ⟨_, hqq⟩, fs, (upd_ne (Ne.symm h3)).trans hFd4, by rw [paired_len pfs]; exact m4⟩
      rintro τ G5 ⟨rfl, s5, sa5, sb5, tb5, fs5, hFd5, lf5⟩
      refine seq_splitR (fun τ G => τ = [some (.ref p), some (.ref a), some (.ref Fd), some (.ref m), some (.ref m2), x5, x6, x7, x8, x9, x10, x11, x12] ∧ Same G1 G ∧ StnA C G (.ref m) t ∧ StnA C G (.ref m2) t ∧ LamX.Tabs (TTb Pt Pb) G) (fun D2 hrt2 hD2 => ?_) ?_
      · refine ⟨_, rfl, .inl ⟨rfl, _, SqL.of hFd5⟩, Fd, fs5, _, rfl, rfl, hFd5, Nat.lt_of_le_of_lt lf5 (by decide), hD2 _ _ ⟨rfl, same_at s5 fFd, sa5.lstU hFd5, sb5.lstU hFd5, tabs_at tb5 (fun _ _ => trivial) ⟨_, hFd5⟩⟩⟩
      rintro τ G6 ⟨rfl, s6, sa6, sb6, tb6⟩
      have p6 := pG.same s6
      have ha6 := s6 _ _ ha
      have hF6 := s6 _ _ hF
      have tvG6 := tvG.same s6
      -- shown
      have nc := std_nice tok
      have shl := nc.shl
      have hst := stTx_len tok
      have zL : ∀ n : Nat, n ≤ 40000 → n ≤ sizeLine := fun n h => Nat.le_trans h (by decide)
      have rpI : ∀ k : Fin 3, rpB (.int ((k.val : Nat) : Int)) = true := by decide +kernel
      have rp1 := rpI ⟨t.ins, by have := tok.i2; omega⟩
      have rp2 := rpI ⟨t.outs, by have := tok.o2; omega⟩
      refine seq_splitR (fun τ G => τ = [some (.ref p), some (.ref a), some (.ref Fd), some (.ref m), some (.ref m2), some (.str (stTx t)), x6, x7, x8, x9, x10, x11, x12] ∧ Same G6 G) (fun D2 hrt2 hD2 => ?_) ?_
      · have si : ∀ k : Nat, k ≤ 2 → (PyData.int (k : Nat)).shown.length ≤ 3 := fun k hk => by
          have : ∀ k : Fin 3, decide ((PyData.int ((k.val : Nat) : Int)).shown.length ≤ 3) = true := by decide +kernel
          exact of_decide_eq_true (this ⟨k, by omega⟩)
        refine ⟨⟨_, rfl⟩, _, rfl, a, rfl, ⟨_, SqT.of ha6⟩, fun D hD => lc_it walk_tup (fun j G => Same G6 G ∧ G D = some (.lst (([V.str (PyData.int (t.ins : Nat)).shown, V.str (PyData.int (t.outs : Nat)).shown, V.str (stdD t).shown]).take j))) ⟨same_new hD _, upd_same⟩ (fun j G _ z => SqT.of (z.1 _ _ ha6)) ?_ ?_⟩
        · rintro j x G7 G8 hj ⟨sm, hd⟩ ⟨rfl, hx⟩
          have hF8 := sm _ _ hF6
          have hj3 : j < 3 := hj
          have fin : ∀ z : Str, ([V.str (PyData.int (t.ins : Nat)).shown, V.str (PyData.int (t.outs : Nat)).shown, V.str (stdD t).shown])[j]? = some (V.str z) → ∃ acc, G8 D = some (.lst acc) ∧ acc.length < sizeLine ∧ Same G6 (upd G8 D (.lst (acc ++ [.str z]))) ∧ upd G8 D (.lst (acc ++ [.str z])) D = some (.lst (([V.str (PyData.int (t.ins : Nat)).shown, V.str (PyData.int (t.outs : Nat)).shown, V.str (stdD t).shown]).take (j + 1))) := fun z ez => by
            refine ⟨_, hd, Nat.lt_of_le_of_lt (List.length_take_le _ _) (Nat.lt_of_lt_of_le hj3 (by decide)), same_at sm hD, ?_⟩
            rw [upd_same, List.take_add_one, ez]
            rfl
          refine ⟨rfl, tyI ⟨_, rfl, ?_⟩⟩
          dsimp only [tNil]
          match j, hj3, hx, fin with
          | 0, _, hx, fin =>
            obtain rfl := Option.some.inj hx
            exact rpB_q (p := p) rp1 (.int _) (fin _ rfl)
          | 1, _, hx, fin =>
            obtain rfl := Option.some.inj hx
            exact rpB_q (p := p) rp2 (.int _) (fin _ rfl)
          | 2, _, hx, fin =>
            obtain rfl := Option.some.inj hx
            exact .inl ⟨p, _, stdD t, rfl, .lst nF hF8 ((hus.same s6).same sm), nc.sh, Nat.le_trans nc.dep (by decide), zL _ (by omega), fin _ rfl⟩
        rintro G7 ⟨sm, hd⟩
        have hj : Txt.join ", " [(PyData.int (t.ins : Nat)).shown, (PyData.int (t.outs : Nat)).shown, (stdD t).shown] = (PyData.int (t.ins : Nat)).shown ++ (", " : Str) ++ (PyData.int (t.outs : Nat)).shown ++ (", " : Str) ++ (stdD t).shown := by
          rfl
        have l1 := si t.ins (by have := tok.i2; omega)
        have l2 := si t.outs (by have := tok.o2; omega)
        refine ⟨_, D, [(PyData.int (t.ins : Nat)).shown, (PyData.int (t.outs : Nat)).shown, (stdD t).shown], rfl, rfl, .inl (SqL.of hd), ?_, ?_⟩
        · show (PyData.int (t.ins : Nat)).shown.length + ((PyData.int (t.outs : Nat)).shown.length + ((stdD t).shown.length + 0)) + 3 * 2 ≤ 16777216
          omega
        rw [hj]
        have e1 : ("Station(" : Str).length = 8 := by decide
        have e2 : (", " : Str).length = 2 := by decide
        have e3 : (")" : Str).length = 1 := by decide
        refine ⟨_, _, rfl, rfl, zL _ ?_, _, _, rfl, rfl, zL _ ?_, ?_⟩
        · simp only [strLen_append, e1, e2]
          omega
        · simp only [strLen_append, e1, e2, e3]
          omega
        · rw [shown_st]
          exact hD2 _ _ ⟨rfl, sm⟩
      rintro τ G7 ⟨rfl, s7⟩
      have sa7 := sa6.same s7
      have sb7 := sb6.same s7
      have s17 := s6.trans' s7
      have p7 := p6.same s7
      have tb7 := tb6.ext s7
      obtain ⟨m', dx, p', ps, em, hm1, hm2, hm3⟩ := id sa7
      cases em
      have tvG7 := tvG6.same s7
      have ha7 := s7 _ _ ha6
      have hF7 := s7 _ _ hF6
      -- what it tells
      refine seq_splitR (fun τ G => τ = [some (.ref p), some (.ref a), some (.ref Fd), some (.ref m), some (.ref m2), some (.str (stTx t)), x6, x7, x8, x9, x10, x11, x12] ∧ Same G7 G) (fun D2 hrt2 hD2 => ?_) ?_
      · refine ⟨_, rfl, m, dx, _, rfl, hm1, .ref m, t, rfl, sa7, ?_⟩
        refine ⟨_, rfl, m, dx, _, rfl, hm1, .ref m, t, rfl, sa7, ?_⟩
        refine ⟨_, rfl, m, dx, _, rfl, hm1, rfl, .ref m, t, rfl, sa7, by omega, fun G8 L ws s8 nL hL pw => ⟨sz rfl, fun M1 hM1 => ?_⟩⟩
        have n1' := same_new hM1 (.lst [V.int (t.ins : Nat), .int (t.outs : Nat), .ref L])
        have np7 : G7 p ≠ none := fun e => by
          obtain ⟨x, y, h, _⟩ := p7
          rw [h] at e
          cases e
        have tL : Tv p G8 (.ref L) (stdD t) := .lst (p7.ne nL) hL (toldF_tv (p7.same s8).nt np7 pw)
        have nl := st_nice tok
        have shS : (PyData.list [.int (t.ins : Nat), .int (t.outs : Nat), stdD t]).showable = true ∧ (PyData.list [.int (t.ins : Nat), .int (t.outs : Nat), stdD t]).depth ≤ 30 ∧ (PyData.list [.int (t.ins : Nat), .int (t.outs : Nat), stdD t]).shown.length ≤ sizeLine := by
          have nlt : Nice 6 2439 (.list [.int (t.ins : Nat), .int (t.outs : Nat), stdD t]) := nice_lst (n := 5) (w := 812) (m := 3) (fun d hd => by
            simp only [List.mem_cons, List.not_mem_nil, or_false] at hd
            rcases hd with rfl | rfl | rfl
            · exact (nice_int (by have := tok.i2; omega)).mono (by decide) (by decide)
            · exact (nice_int (by have := tok.o2; omega)).mono (by decide) (by decide)
            · exact nc) (Nat.le_refl _)
          exact ⟨nlt.sh, Nat.le_trans nlt.dep (by decide), nlt.shown (by decide) (by decide)⟩
        dsimp only [tNil]
        refine .inl ⟨p, .ref M1, .list [.int (t.ins : Nat), .int (t.outs : Nat), stdD t], rfl, .lst ((p7.same s8).ne hM1) upd_same (.cons (.int _) (.cons (.int _) (.cons (tL.same n1') .nil))), shS.1, shS.2.1, shS.2.2, ?_⟩
        refine ⟨_, rfl, a, _, rfl, .inr (SqT.of ((s8.trans' n1') _ _ ha7)), fun M2 hM2 => ?_⟩
        have n2' := same_new hM2 (.lst [V.int (t.ins : Nat), .int (t.outs : Nat), .ref F0])
        have s9 := (s8.trans' n1').trans' n2'
        dsimp only [tNil]
        refine .inl ⟨p, .ref M2, .list [.int (t.ins : Nat), .int (t.outs : Nat), stdD t], rfl, .lst ((p7.same (s8.trans' n1')).ne hM2) upd_same (.cons (.int _) (.cons (.int _) (.cons (.lst nF (s9 _ _ hF7) ((hus.same s17).same s9)) .nil))), shS.1, shS.2.1, shS.2.2, rfl, _, rfl, iteFd (by simp) ?_⟩
        exact hD2 _ _ ⟨rfl, s9⟩
      rintro τ G8 ⟨rfl, s8⟩
      have sa8 := sa7.same s8
      have sb8 := sb7.same s8
      have hm8 := s8 _ _ hm1
      have ha8 := s8 _ _ ha7
      have hF8 := s8 _ _ hF7
      have tb8 := tb7.ext s8
      have p8 := p7.same s8
      have tv8 := tvG7.same s8
      refine seq_splitR (fun τ G => τ = [some (.ref p), some (.ref a), some (.ref Fd), some (.ref m), some (.ref m2), some (.str (stTx t)), x6, x7, x8, x9, x10, x11, x12] ∧ Same G8 G) (fun D2 hrt2 hD2 => ?_) ?_
      · refine ⟨_, rfl, m, dx, _, rfl, hm8, .ref m, t, rfl, sa8, t.stgs.length, rfl, by omega, _, rfl, _, _, _, _, rfl, rfl, SqT.of ha8, atI_nat (j := 2) rfl, F0, us, rfl, .inl (SqL.of hF8), ?_⟩
        rw [lus]
        exact ⟨rfl, _, rfl, iteFd (by simp) (hD2 _ _ ⟨rfl, fun _ _ e => e⟩)⟩
      rintro τ G9 ⟨rfl, s9⟩
      refine seq_splitR (fun τ G => τ = [some (.ref p), some (.ref a), some (.ref Fd), some (.ref m), some (.ref m2), some (.str (stTx t)), x6, x7, x8, x9, x10, x11, x12] ∧ Same G8 G) (fun D2 hrt2 hD2 => ?_) ?_
      · obtain ⟨S0, hS0⟩ : ∃ S0, t.stgs[0]? = some S0 := ⟨_, List.getElem?_eq_getElem (by omega)⟩
        refine ⟨_, rfl, m, dx, _, rfl, s9 _ _ hm8, rfl, .ref m, t, rfl, sa8.same s9, by omega, fun G L ws s10 nL hL pw => ?_⟩
        obtain ⟨f0, hf0, b, qq, ws', rfl, h1, h2, h3, h4, h5⟩ := paired_atS pw hS0
        exact ⟨_, _, _, _, rfl, rfl, SqL.of hL, atI_nat (j := 0) hf0, _, _, _, _, rfl, rfl, SqT.of h1, atI_nat (j := 1) rfl, .inl ⟨rfl, _, SqL.of h4⟩, qq, ws', rfl, rfl, h4, hD2 _ _ ⟨rfl, same_at (s9.trans' s10) (none_ofS s9 h2)⟩⟩
      rintro τ G10 ⟨rfl, s10⟩
      refine seq_splitR (fun τ G => τ = [some (.ref p), some (.ref a), some (.ref Fd), some (.ref m), some (.ref m2), some (.str (stTx t)), x6, x7, x8, x9, x10, x11, x12] ∧ Same G8 G) (fun D2 hrt2 hD2 => ?_) ?_
      · refine ⟨_, rfl, m, dx, _, rfl, s10 _ _ hm8, rfl, .ref m, t, rfl, sa8.same s10, by omega, fun G L ws s11 nL hL pw => ?_⟩
        exact ⟨.inl ⟨rfl, _, SqL.of hL⟩, L, ws, rfl, rfl, hL, hD2 _ _ ⟨rfl, same_at (s10.trans' s11) (none_ofS s10 nL)⟩⟩
      rintro τ G11 ⟨rfl, s11⟩
      have p11 := p8.same s11
      -- unlike ones
      refine seq_splitR (fun τ G => ∃ (Ot : Addr) (vs : List V), τ = [some (.ref p), some (.ref a), some (.ref Fd), some (.ref m), some (.ref m2), some (.str (stTx t)), some (.ref Ot), x7, x8, x9, x10, x11, x12] ∧ Kp p G11 G ∧ Pot p G ∧ G Ot = some (.lst vs) ∧ vs.length ≤ 6 ∧ (∀ u ∈ vs, ∃ t', StnA C G u t' ∧ t'.ok ∧ t' ≠ t)) (fun D2 hrt2 hD2 => ?_) ?_
      · refine ⟨_, rfl, _, rfl, ?_⟩
        dsimp only [tNil]
        refine ⟨p, .ref a, t, rfl, p11, tv8.same s11, tok, fun G12 L us' k12 p12 nL hL az l6 => ⟨L, rfl, ⟨_, SqL.of hL⟩, fun D hD => lc_it walk_list (fun j G => Same G12 G ∧ ∃ vs, G D = some (.lst vs) ∧ vs.length = j ∧ ∀ u ∈ vs, ∃ t', StnA C G u t' ∧ t'.ok ∧ t' ≠ t) ⟨same_new hD _, [], upd_same, rfl, fun u hu => nomatch hu⟩ (fun j G _ z => SqL.of (z.1 _ _ hL)) ?_ ?_⟩⟩
        · rintro j x G13 G14 hj ⟨sm, vs, hd, lv, all⟩ ⟨rfl, hx⟩
          obtain ⟨d, tzx, t', rfl, ok', ne'⟩ := az x (List.mem_of_getElem? hx)
          refine ⟨rfl, tyI ⟨_, rfl, p, x, t', .list (t'.stgs.map toD), rfl, (tzx p (List.mem_singleton.mpr rfl)).same sm, ok', rfl, sgD_tos _, fun G15 c s15 st => ⟨vs, s15 _ _ hd, ?_, same_at (sm.trans' s15) hD, vs ++ [.ref c], upd_same, by rw [List.length_append, lv]; rfl, fun u hu => ?_⟩⟩⟩
          · rw [lv]
            exact Nat.lt_of_lt_of_le (show j < 100000 by omega) (by decide)
          · rcases List.mem_append.mp hu with hu | hu
            · obtain ⟨t'', h1, h2, h3⟩ := all u hu
              exact ⟨t'', (h1.same s15).lstU (s15 _ _ hd), h2, h3⟩
            · rw [List.mem_singleton.mp hu]
              exact ⟨t', st.lstU (s15 _ _ hd), ok', ne'⟩
        rintro G13 ⟨sm, vs, hd, lv, all⟩
        exact hD2 _ _ ⟨D, vs, rfl, k12.trans (Kp.of sm), p12.same sm, hd, by omega, all⟩
      rintro τ G12 ⟨Ot, ots, rfl, k12, p12, hOt, lot, allo⟩
      have sa12 := (sa8.same s11).kp p11 k12
      have sb12 := (sb8.same s11).kp p11 k12
      have tb12 := tabs_kp p11 k12 (tb8.ext s11)
      have ha12 := k12 _ _ na (s11 _ _ ha8)
      have hF12 := k12 _ _ nF (s11 _ _ hF8)
      have tv12 := (tv8.same s11).kp k12
      have kp12 : KpN p H G12 := kG.trans ((KpN.ext (ext_of ((s17.trans' s8).trans' s11))).trans (KpN.kp k12))
      have hLG12 : G12 Lm = some (.lst [.ref a]) := k12 _ _ (fun z => by obtain ⟨x, y, h, _⟩ := pG; rw [z, h] at hLG; cases hLG) (s11 _ _ (s8 _ _ (s17 _ _ hLG)))
      have nLm : Lm ≠ p := fun z => by obtain ⟨x, y, h, _⟩ := pG; rw [z, h] at hLG; cases hLG
      obtain ⟨m1', dx1, q1, ps1, em1, hM1, _⟩ := id sa12
      obtain ⟨m2', dx2, q2, ps2, em2, hM2, _⟩ := id sb12
      cases em1
      cases em2
      refine seq_splitR (fun τ G => τ = [some (.ref p), some (.ref a), some (.ref Fd), some (.ref m), some (.ref m2), some (.str (stTx t)), some (.ref Ot), x7, x8, x9, x10, x11, x12] ∧ Same G12 G) (fun D2 hrt2 hD2 => ?_) ?_
      · refine ⟨_, rfl, _, rfl, m, dx1, _, rfl, hM1, .inl ⟨m2, dx2, _, rfl, hM2⟩, .ref m, .ref m2, t, rfl, sa12, tok, .inl ⟨t, sb12, tok, _, rfl, _, rfl, iteTd (stnE_refl tok) ?_⟩⟩
        refine ⟨_, rfl, m, dx1, _, rfl, hM1, m, t, rfl, sa12, tok, fun H' s => ⟨_, rfl, ?_⟩⟩
        refine ⟨_, rfl, rfl, _, rfl, iteTd (by simp) ?_⟩
        refine ⟨_, rfl, _, rfl, m, dx1, _, rfl, s _ _ hM1, .inr ⟨_, rfl⟩, .ref m, _, t, rfl, sa12.same s, tok, .inr ⟨_, rfl, _, rfl, _, rfl, iteFd (by simp) ?_⟩⟩
        exact hD2 _ _ ⟨rfl, s⟩
      rintro τ G13 ⟨rfl, s13⟩
      refine seq_splitR (fun τ G => τ = [some (.ref p), some (.ref a), some (.ref Fd), some (.ref m), some (.ref m2), some (.str (stTx t)), some (.ref Ot), x7, x8, x9, x10, x11, x12] ∧ Same G12 G) (fun D2 hrt2 hD2 => ?_) ?_
      · refine ⟨_, rfl, Ot, rfl, ⟨_, SqL.of (s13 _ _ hOt)⟩, fun D hD => lc_it walk_list (fun j G => Same G13 G ∧ G D = some (.lst ((List.replicate j false).map V.bl))) ⟨same_new hD _, upd_same⟩ (fun j G _ z => SqL.of (z.1 _ _ (s13 _ _ hOt))) ?_ ?_⟩
        · rintro j x G14 G15 hj ⟨sm, hd⟩ ⟨rfl, hx⟩
          obtain ⟨t', sx, ok', ne'⟩ := allo x (List.mem_of_getElem? hx)
          have s15 := s13.trans' sm
          have sx15 := sx.same s15
          obtain ⟨xa, dxx, qx, psx, rfl, hX, _⟩ := id sx15
          refine ⟨rfl, tyI ⟨_, rfl, _, rfl, m, dx1, _, rfl, s15 _ _ hM1, .inl ⟨xa, dxx, _, rfl, hX⟩, .ref m, .ref xa, t, rfl, sa12.same s15, tok, .inl ⟨t', sx15, ok', _, rfl, _, rfl, iteFd (stnE_ne (Ne.symm ne')) ?_⟩⟩⟩
          refine ⟨_, rfl, _, rfl, xa, dxx, _, rfl, hX, .inl ⟨m, dx1, _, rfl, s15 _ _ hM1⟩, .ref xa, .ref m, t', rfl, sx15, ok', .inl ⟨t, sa12.same s15, tok, _, rfl, ?_⟩⟩
          rw [stnE_ne ne']
          refine ⟨_, hd, ?_, same_at sm hD, ?_⟩
          · rw [List.length_map, List.length_replicate]
            exact Nat.lt_of_lt_of_le (show j < 100000 by omega) (by decide)
          · rw [upd_same, List.replicate_succ', List.map_append]
            rfl
        · rintro G14 ⟨sm, hd⟩
          refine ⟨D, _, rfl, SqL.of hd, _, rfl, iteFd ?_ (hD2 _ _ ⟨rfl, s13.trans' sm⟩)⟩
          simp
      rintro τ G14 ⟨rfl, s14⟩
      have p14 := p12.same s14
      refine seq_splitR (fun τ G => ∃ m3 : Addr, τ = [some (.ref p), some (.ref a), some (.ref Fd), some (.ref m), some (.ref m2), some (.str (stTx t)), some (.ref Ot), some (.ref m3), x8, x9, x10, x11, x12] ∧ Same G14 G ∧ StnA C G (.ref m3) t) (fun D2 hrt2 hD2 => ?_) ?_
      · have ha14 := s14 _ _ ha12
        have hF14 := s14 _ _ hF12
        have hus14 := ((((((hus.same s17).same s8).same s11).kp k12)).same s14)
        refine ⟨_, rfl, _, _, _, _, rfl, rfl, SqT.of ha14, atI_nat (j := 0) rfl, _, rfl, _, _, _, _, rfl, rfl, SqT.of ha14, atI_nat (j := 1) rfl, _, rfl, _, _, _, _, rfl, rfl, SqT.of ha14, atI_nat (j := 2) rfl, F0, rfl, ⟨_, SqL.of hF14⟩, fun D hD => lc_it walk_list (fun j G => Same G14 G ∧ ∃ fs, G D = some (.lst fs) ∧ Paired (SgA G) fs (t.stgs.take j)) ⟨same_new hD _, [], upd_same, .nil⟩ (fun j G _ z => SqL.of (z.1 _ _ hF14)) ?_ ?_⟩
        · rintro j x G15 G16 hj ⟨sm, fs, hd, pu⟩ ⟨rfl, hx⟩
          obtain ⟨dd, hdd, tvx⟩ := (hus14.same sm).at hx
          obtain ⟨sg, hsg, rfl⟩ := List.getElem?_map_some hdd
          obtain ⟨e, qq, ws, rfl, _, he, _, hq, hws⟩ := to_tv tvx
          have prs := rwA_tvs hws
          have hlu := paired_len pu
          have hil := lt_len hsg
          refine ⟨_, _, rfl, SqT.of he, rfl, _, _, rfl, _, _, rfl, rfl, rfl, tyI ⟨_, rfl, _, rfl, qq, ws, rfl, .inl ⟨SqL.of hq, fun q1 hq1 => ⟨sz rfl, fun q2 hq2 => ?_⟩⟩⟩⟩
          have n1' := same_new hq1 (.tup ws)
          have n2' := same_new hq2 (.tup [.str sg.reads.s, .ref q1])
          have hd2 := n2' _ _ (n1' _ _ hd)
          have tu : Tups G16 (upd (upd (upd G16 q1 (.tup ws)) q2 (.tup [.str sg.reads.s, .ref q1])) D (.lst (fs ++ [.ref q2]))) := (Tups.of (n1'.trans' n2')).trans (tups_at hd2)
          refine ⟨_, hd2, ?_, same_at ((sm.trans' n1').trans' n2') hD, fs ++ [.ref q2], upd_same, ?_⟩
          · rw [hlu, List.length_take]
            exact Nat.lt_of_lt_of_le (show _ < 100000 by omega) (by decide)
          · rw [List.take_add_one, hsg]
            refine paired_app (sgA_all tu pu) (.cons ⟨q2, q1, ws, rfl, tups_at hd2 _ _ upd_same, tups_at hd2 _ _ (n2' _ _ upd_same), rwA_all tu prs⟩ .nil)
        · rintro G15 ⟨sm, fs, hd, pu⟩
          rw [lus, List.take_length] at pu
          refine ⟨D, fs, rfl, .inl ⟨SqL.of hd, fun T2 hT2 => ⟨sz rfl, fun T3 hT3 => ?_⟩⟩⟩
          have n1' := same_new hT2 (.tup fs)
          have n2' := same_new hT3 (.tup [.int (t.ins : Nat), .int (t.outs : Nat), .ref T2])
          have p15 := p14.same sm
          refine ⟨p, .ref T3, t, .tuple (t.stgs.map sgD), rfl, .tup ((p15.same n1').ne hT3) upd_same (.cons (.int _) (.cons (.int _) (.cons (.tup (p15.ne hT2) (n2' _ _ upd_same) (sgA_tvAll ((p15.same n1').same n2').nt (sgA_all (Tups.of (n1'.trans' n2')) pu))) .nil))), tok, rfl, sgD_sgs _, fun H' c s st => ?_⟩
          exact hD2 _ _ ⟨c, rfl, ((sm.trans' n1').trans' n2').trans' s, st⟩
      rintro τ G15 ⟨m3, rfl, s15, sc15⟩
      have s1215 := s14.trans' s15
      have sa15 := sa12.same s1215
      obtain ⟨m3', dx3, q3, ps3, em3, hM3, _⟩ := id sc15
      cases em3
      have p15 := p12.same s1215
      have tv15 := tv12.same s1215
      have tb15 := tb12.ext s1215
      refine ⟨_, rfl, _, rfl, ⟨m3, m, dx3, dx1, _, _, rfl, rfl, hM3, s1215 _ _ hM1, t, sc15, sa15, tok⟩, fun H' e16 => ⟨_, rfl, iteFd rfl ?_⟩⟩
      have s16 : Same G15 H' := fun b o h => e16 _ _ h
      refine ⟨_, rfl, _, rfl, ?_⟩
      dsimp only [tNil]
      refine ⟨p, m, .ref a, t, rfl, p15.same s16, sa15.same s16, tv15.same s16, tok, tb15.ext s16, fun H17 e17 tb17 => ⟨_, rfl, iteFd rfl ?_⟩⟩
      refine ⟨_, rfl, _, rfl, ?_⟩
      dsimp only [tNil]
      refine ⟨p, .ref a, t, rfl, ExtN_pot e17 (p15.same s16), (tv15.same s16).ext e17, tok, tb17, fun H18 k18 p18 tb18 => ⟨_, rfl, iteFd rfl ?_⟩⟩
      have kk : KpN p G12 H18 := (KpN.ext (ext_of (s1215.trans' s16))).trans ((KpN.ext e17).trans k18)
      exact ⟨_, _, _, _, _, _, _, _, _, _, _, _, rfl, kp12.trans kk, p18, tb18, kk.lst nLm hLG12, Tv.kpN kk tv12⟩
    rintro τ G ⟨x1, x2, x3, x4, x5, x6, x7, x8, x9, x10, x11, x12, rfl, kG, pG, tbG, _⟩
    exact hD1 _ _ ⟨x1, x2, x3, x4, x5, x6, x7, x8, x9, x10, x11, x12, rfl, kG, pG, tbG⟩
  rintro τ H2 ⟨x1, x2, x3, x4, x5, x6, x7, x8, x9, x10, x11, x12, rfl, k2, p2, tb2⟩
  exact ⟨p, rfl, p2, fun H' s => q H' (k2.trans (KpN.ext (ext_of s))) (p2.same s) (tb2.ext s)⟩
end
end FY


set_option Elab.async false
set_option linter.all false
set_option maxRecDepth 100000
set_option maxHeartbeats 8000000
namespace FY
open PySem L2 FYR
/-! ## the law -/
theorem sqL_ex {K : PySem.W.Frag} {H H' : Hp} {a : Addr} {xs : List V} (h : SqL K H a xs) (e : LamX.ExtN H H') : SqL K H' a xs :=
  h.elim (fun h => .inl (h.elim (fun h => .inl (e _ _ h (fun _ z => nomatch z))) fun ⟨o, h⟩ => .inr ⟨o, e _ _ h (fun _ z => nomatch z)⟩)) fun h => .inr h
def spLaw10 (K : PySem.W.Frag) (Pt Pb : Addr) : Sp := fun vs H Q _ => ∃ (a : Addr) (ns : List Int), vs = [.ref a] ∧ SqL K H a (ns.map V.int) ∧ LamX.Tabs (TTb Pt Pb) H ∧ ∀ H', Q (.bl true) H'
section
variable {P : Program} {w : World} {K : PySem.W.Frag} {mg : Str → Option Value} {base : Heap} {aS a1 a2 aL aT : Addr} {f : Addr} {fd : FuncData} {C CD CY Pt Pb : Addr} {mc : Value}
abbrev s_law : Stmt := top 44
abbrev N_law : List Str := ["_law_script", "_law_k"]
theorem sc_law : FnScope N_law ["_law_script"] (defScope s_law) := ⟨rfl, rfl, rfl, by decide +kernel, rfl, by decide +kernel, by decide +kernel⟩
theorem ok_law (F : Fun K "law" "law" s_law f fd) (T : Txt K mg aS a1 a2) (c__law_pot : C8.Cal P w K mg base 1 "_law_pot" (spPot K) []) (c__law_right : CalG P w K mg base 14 "_law_right" (spRight Pt Pb)) : FnG P w K mg base 15 f fd ["_law_script"] (spLaw10 K Pt Pb) := by
  refine fnG_of F sc_law (fun vs H Q E h => ?_) (fun cdv A outer s H vs Q E hgd hr h => ?_)
  · obtain ⟨L, ns, rfl, _⟩ := h
    rfl
  obtain ⟨L, ns, rfl, hS, tb, q⟩ := h
  refine ⟨_, (pss_one (ps_ret (pe_callB (kAll K rfl rfl) rfl T.b_all bt_all (pa_cons (pe_lc (own := [("_law_k", 1)]) rfl sc_law.nd (pi_range1 rfl T.b_range (pa_cons (pe_callB (call_max2 rfl) rfl T.b_max bt_max (pa_cons pe_int (pa_cons (pe_callB (call_min2 rfl) rfl T.b_min bt_min (pa_cons pe_int (pa_cons (pe_callB (kLen K rfl) rfl T.b_len bt_len (pa_cons (pv 0) pa_nil)) pa_nil))) pa_nil))) pa_nil)) (blkOk_by (N := N_law) (sc := defScope s_law) (by decide +kernel)) (fun _ _ _ _ _ => (pg_name (i := 1) sc_law.nd rfl (Or.inl rfl))) (fun _ _ _ _ _ => pts_nil) (fun _ _ _ _ _ => (pe_cG c__law_right hgd hr (by decide) rfl (pa_cons (C8.pe_c c__law_pot hr (by decide) rfl (pa_cons (pv 0) (pa_cons (pv 1) pa_nil))) pa_nil)))) pa_nil)))), ?_⟩
  refine ⟨_, rfl, _, _, rfl, .inl hS, _, _, rfl, _, _, rfl, ?_⟩
  obtain ⟨n, hn, hn2⟩ : ∃ n : Nat, (if (if ((ns.map V.int).length : Int) < 2 then ((ns.map V.int).length : Int) else 2) > 1 then (if ((ns.map V.int).length : Int) < 2 then ((ns.map V.int).length : Int) else 2) else 1) = (n : Int) ∧ n ≤ 2 := by
    refine ⟨((if (if ((ns.map V.int).length : Int) < 2 then ((ns.map V.int).length : Int) else 2) > 1 then (if ((ns.map V.int).length : Int) < 2 then ((ns.map V.int).length : Int) else 2) else 1)).toNat, ?_, ?_⟩ <;> split <;> split <;> omega
  refine ⟨_, rfl, ?_, ?_, fun D hD => lc_it walk_range (fun i H' => LamX.ExtN H H' ∧ LamX.Tabs (TTb Pt Pb) H' ∧ H' D = some (.lst (List.replicate i (.bl true)))) ⟨ext_of (same_new hD _), tb.ext (same_new hD _), upd_same⟩ (fun _ _ _ _ => trivial) ?_ ?_⟩
  · rw [hn]; omega
  · rw [hn]; omega
  · rintro i x H1 H2 hi ⟨sm, tb2, hd⟩ ⟨rfl, hx⟩
    have hx : x = .int (i : Int) := by rw [hx]; exact congrArg V.int (Int.zero_add _)
    subst hx
    have hi2 : i < 2 := by rw [hn] at hi; omega
    refine ⟨rfl, tyI ⟨_, rfl, _, rfl, ?_⟩⟩
    dsimp only [tNil]
    refine ⟨L, ns, _, rfl, sqL_ex hS sm, by omega, by omega, fun H3 p s3 hp3 pt => ⟨p, rfl, pt, tb2.ext s3, fun H4 k4 p4 tb4 => ?_⟩⟩
    have hDp : D ≠ p := fun z => by rw [← z, hd] at hp3; cases hp3
    have hd4 : H4 D = some (.lst (List.replicate i (.bl true))) := k4 D _ hDp (fun _ z => nomatch z) (s3 _ _ hd)
    refine ⟨_, hd4, ?_, fun b o e nd => ?_, tabs_at tb4 (fun _ _ => trivial) ⟨_, hd4⟩, ?_⟩
    · rw [List.length_replicate]
      exact Nat.lt_of_lt_of_le (show i < 100000 by omega) (by decide)
    · have e1 := sm b o e nd
      have bD : b ≠ D := ne_of_none e hD
      rw [upd_ne bD]
      exact k4 b o (fun z => by rw [z, hp3] at e1; cases e1) nd (s3 _ _ e1)
    · rw [upd_same, List.replicate_succ']
  · rintro H1 ⟨sm, tb1, hd⟩
    refine ⟨_, List.replicate _ true, rfl, SqL.of (by rw [hd, List.map_replicate]), ?_⟩
    rw [show ∀ m, (List.replicate m true).all id = true from fun m => by simp]
    exact q _
end
end FY


set_option Elab.async false
set_option linter.all false
set_option maxRecDepth 100000
set_option maxHeartbeats 0
namespace FY
open PySem L2 FYR
theorem all_mk {P : Program} {w : World} {K : PySem.W.Frag} {mg : Str → Option Value} {base : Heap} {aS a1 a2 aL : Addr} {mc : Value} {CF CI CO CS CD CT c c2 Pt Pb : Addr}
    {C : Addr}
    {f_law_draw : Addr} {fd_law_draw : FuncData}
    {f_law_pick : Addr} {fd_law_pick : FuncData}
    {f_law_pot : Addr} {fd_law_pot : FuncData}
    {f_Station_eq : Addr} {fd_Station_eq : FuncData}
    {f_is_integerT : Addr} {fd_is_integerT : FuncData}
    {f_is_countT : Addr} {fd_is_countT : FuncData}
    {f_is_belowT : Addr} {fd_is_belowT : FuncData}
    {f_is_textT : Addr} {fd_is_textT : FuncData}
    {f_is_text_ofT : Addr} {fd_is_text_ofT : FuncData}
    {f_is_listT2 : Addr} {fd_is_listT2 : FuncData}
    {f_are_readT : Addr} {fd_are_readT : FuncData}
    {f_is_rowT : Addr} {fd_is_rowT : FuncData}
    {f_is_standing_toldT : Addr} {fd_is_standing_toldT : FuncData}
    {f_FEI : Addr} {fd_FEI : FuncData}
    {f_want_standingX : Addr} {fd_want_standingX : FuncData}
    {f_ISI : Addr} {fd_ISI : FuncData}
    {f_Station_readsX : Addr} {fd_Station_readsX : FuncData}
    {f_place_ofS : Addr} {fd_place_ofS : FuncData}
    {f_Station_rowX : Addr} {fd_Station_rowX : FuncData}
    {f_Station_initX : Addr} {fd_Station_initX : FuncData}
    {f_Station_insS : Addr} {fd_Station_insS : FuncData}
    {p_Station_insS : Addr}
    {f_Station_outsS : Addr} {fd_Station_outsS : FuncData}
    {p_Station_outsS : Addr}
    {f_Station_standingsF : Addr} {fd_Station_standingsF : FuncData}
    {f_Station_lenS : Addr} {fd_Station_lenS : FuncData}
    {f_Station_eqS : Addr} {fd_Station_eqS : FuncData}
    {f_Station_reprS : Addr} {fd_Station_reprS : FuncData}
    {f_law_text : Addr} {fd_law_text : FuncData}
    {f_law_row : Addr} {fd_law_row : FuncData}
    {f_law_model : Addr} {fd_law_model : FuncData}
    {f_law_odd_rows : Addr} {fd_law_odd_rows : FuncData}
    {f_law_odd_standings : Addr} {fd_law_odd_standings : FuncData}
    {f_law_made : Addr} {fd_law_made : FuncData}
    {f_law_unlike : Addr} {fd_law_unlike : FuncData}
    {f_law_all_unlike : Addr} {fd_law_all_unlike : FuncData}
    {f_law_refused_right : Addr} {fd_law_refused_right : FuncData}
    {f_law_rows_right : Addr} {fd_law_rows_right : FuncData}
    {f_is_signT : Addr} {fd_is_signT : FuncData}
    {f_law_basics_right : Addr} {fd_law_basics_right : FuncData}
    {f_law_right : Addr} {fd_law_right : FuncData}
    {f_law : Addr} {fd_law : FuncData}
    {f_law_heard : Addr} {fd_law_heard : FuncData}
    (T : Txt K mg aS a1 a2) (ks : ∃ o, K.lookup sysModules = some o) (L : Lin K w mg aL) (LO : LinO K aL) (S : StC K mg C) (IC : IsaC K C) (neC : PySem.W.findIn K (.ref (C)) "__ne__" = some (some (.builtin "object.__ne__"))) (kS : PySem.W.kitOne K (.type "str") (.ref C) = some false) (hV : mg "ValueError" = none) (hAny : mg "any" = none) (vVE : PySem.W.findCls K (.type "ValueError") (.type "type") "__init__" = some (.val (.builtin "ValueError.__init__"))) (FE : FeC K mg CF f_FEI mc) (MI : IvC K mg "InvalidIns" CI f_FEI) (MO : IvC K mg "InvalidOuts" CO f_FEI) (MD : IvC K mg "InvalidStanding" CD f_FEI) (MT : IvC K mg "InvalidText" CT f_FEI) (MS : IsC K mg CS f_ISI) (N5 : HdA5 K mg CF CI CO CS CD CT) (hcvA : fd_law_refused_right.code = .ref c) (hcvB : fd_law_rows_right.code = .ref c2) (TBt : LamX.TabB base mg c Pt) (TBb : LamX.TabB base mg c2 Pb) (nTB : Pt ≠ Pb)
    (F_law_draw : Fun K "_law_draw" "_law_draw" s_law_draw f_law_draw fd_law_draw)
    (m_law_draw : mg "_law_draw" = some (.ref f_law_draw))
    (F_law_pick : Fun K "_law_pick" "_law_pick" s_law_pick f_law_pick fd_law_pick)
    (m_law_pick : mg "_law_pick" = some (.ref f_law_pick))
    (F_law_pot : Fun K "_law_pot" "_law_pot" s_law_pot f_law_pot fd_law_pot)
    (m_law_pot : mg "_law_pot" = some (.ref f_law_pot))
    (F_Station_eq : Fun K "__eq__" "Station.__eq__" s_Station___eq__ f_Station_eq fd_Station_eq)
    (me_Station_eq : Meth K C "__eq__" f_Station_eq)
    (F_is_integerT : Fun K "is_integer" "is_integer" s_is_integer f_is_integerT fd_is_integerT)
    (m_is_integerT : mg "is_integer" = some (.ref f_is_integerT))
    (F_is_countT : Fun K "is_count" "is_count" s_is_count f_is_countT fd_is_countT)
    (m_is_countT : mg "is_count" = some (.ref f_is_countT))
    (F_is_belowT : Fun K "is_below" "is_below" s_is_below f_is_belowT fd_is_belowT)
    (m_is_belowT : mg "is_below" = some (.ref f_is_belowT))
    (F_is_textT : Fun K "is_text" "is_text" s_is_text f_is_textT fd_is_textT)
    (m_is_textT : mg "is_text" = some (.ref f_is_textT))
    (F_is_text_ofT : Fun K "is_text_of" "is_text_of" s_is_text_of f_is_text_ofT fd_is_text_ofT)
    (m_is_text_ofT : mg "is_text_of" = some (.ref f_is_text_ofT))
    (F_is_listT2 : Fun K "is_list" "is_list" s_is_list f_is_listT2 fd_is_listT2)
    (m_is_listT2 : mg "is_list" = some (.ref f_is_listT2))
    (F_are_readT : Fun K "are_read" "are_read" s_are_read f_are_readT fd_are_readT)
    (m_are_readT : mg "are_read" = some (.ref f_are_readT))
    (F_is_rowT : Fun K "is_row" "is_row" s_is_row f_is_rowT fd_is_rowT)
    (m_is_rowT : mg "is_row" = some (.ref f_is_rowT))
    (F_is_standing_toldT : Fun K "is_standing_told" "is_standing_told" s_is_standing_told f_is_standing_toldT fd_is_standing_toldT)
    (m_is_standing_toldT : mg "is_standing_told" = some (.ref f_is_standing_toldT))
    (F_FEI : Fun K "__init__" "FlowError.__init__" s_FlowError___init__ f_FEI fd_FEI)
    (F_want_standingX : Fun K "want_standing" "want_standing" s_want_standing f_want_standingX fd_want_standingX)
    (m_want_standingX : mg "want_standing" = some (.ref f_want_standingX))
    (F_ISI : Fun K "__init__" "InvalidStandings.__init__" s_InvalidStandings___init__ f_ISI fd_ISI)
    (F_Station_readsX : Fun K "reads" "Station.reads" s_Station_reads f_Station_readsX fd_Station_readsX)
    (me_Station_readsX : Meth K C "reads" f_Station_readsX)
    (F_place_ofS : Fun K "place_of" "place_of" s_place_of f_place_ofS fd_place_ofS)
    (m_place_ofS : mg "place_of" = some (.ref f_place_ofS))
    (F_Station_rowX : Fun K "row" "Station.row" s_Station_row f_Station_rowX fd_Station_rowX)
    (me_Station_rowX : Meth K C "row" f_Station_rowX)
    (F_Station_initX : Fun K "__init__" "Station.__init__" s_Station___init__ f_Station_initX fd_Station_initX)
    (mk_Station_initX' : Mk K C f_Station_initX)
    (F_Station_insS : Fun K "ins" "Station.ins" s_Station_ins f_Station_insS fd_Station_insS)
    (p_Station_insS' : PropOf K C "ins" p_Station_insS f_Station_insS)
    (F_Station_outsS : Fun K "outs" "Station.outs" s_Station_outs f_Station_outsS fd_Station_outsS)
    (p_Station_outsS' : PropOf K C "outs" p_Station_outsS f_Station_outsS)
    (F_Station_standingsF : Fun K "standings" "Station.standings" s_Station_standings f_Station_standingsF fd_Station_standingsF)
    (me_Station_standingsF : Meth K C "standings" f_Station_standingsF)
    (F_Station_lenS : Fun K "__len__" "Station.__len__" s_Station___len__ f_Station_lenS fd_Station_lenS)
    (me_Station_lenS : Meth K C "__len__" f_Station_lenS)
    (F_Station_eqS : Fun K "__eq__" "Station.__eq__" s_Station___eq__ f_Station_eqS fd_Station_eqS)
    (me_Station_eqS : Meth K C "__eq__" f_Station_eqS)
    (F_Station_reprS : Fun K "__repr__" "Station.__repr__" s_Station___repr__ f_Station_reprS fd_Station_reprS)
    (me_Station_reprS : Meth K C "__repr__" f_Station_reprS)
    (F_law_text : Fun K "_law_text" "_law_text" s_law_text f_law_text fd_law_text)
    (m_law_text : mg "_law_text" = some (.ref f_law_text))
    (F_law_row : Fun K "_law_row" "_law_row" s_law_row f_law_row fd_law_row)
    (m_law_row : mg "_law_row" = some (.ref f_law_row))
    (F_law_model : Fun K "_law_model" "_law_model" s_law_model f_law_model fd_law_model)
    (m_law_model : mg "_law_model" = some (.ref f_law_model))
    (F_law_odd_rows : Fun K "_law_odd_rows" "_law_odd_rows" s_law_odd_rows f_law_odd_rows fd_law_odd_rows)
    (m_law_odd_rows : mg "_law_odd_rows" = some (.ref f_law_odd_rows))
    (F_law_odd_standings : Fun K "_law_odd_standings" "_law_odd_standings" s_law_odd_standings f_law_odd_standings fd_law_odd_standings)
    (m_law_odd_standings : mg "_law_odd_standings" = some (.ref f_law_odd_standings))
    (F_law_made : Fun K "_law_made" "_law_made" s_law_made f_law_made fd_law_made)
    (m_law_made : mg "_law_made" = some (.ref f_law_made))
    (F_law_unlike : Fun K "_law_unlike" "_law_unlike" s_law_unlike f_law_unlike fd_law_unlike)
    (m_law_unlike : mg "_law_unlike" = some (.ref f_law_unlike))
    (F_law_all_unlike : Fun K "_law_all_unlike" "_law_all_unlike" s_law_all_unlike f_law_all_unlike fd_law_all_unlike)
    (m_law_all_unlike : mg "_law_all_unlike" = some (.ref f_law_all_unlike))
    (F_law_refused_right : Fun K "_law_refused_right" "_law_refused_right" s_law_refused_right f_law_refused_right fd_law_refused_right)
    (m_law_refused_right : mg "_law_refused_right" = some (.ref f_law_refused_right))
    (F_law_rows_right : Fun K "_law_rows_right" "_law_rows_right" s_law_rows_right f_law_rows_right fd_law_rows_right)
    (m_law_rows_right : mg "_law_rows_right" = some (.ref f_law_rows_right))
    (F_is_signT : Fun K "is_sign" "is_sign" s_is_sign f_is_signT fd_is_signT)
    (m_is_signT : mg "is_sign" = some (.ref f_is_signT))
    (F_law_basics_right : Fun K "_law_basics_right" "_law_basics_right" s_law_basics_right f_law_basics_right fd_law_basics_right)
    (m_law_basics_right : mg "_law_basics_right" = some (.ref f_law_basics_right))
    (F_law_right : Fun K "_law_right" "_law_right" s_law_right f_law_right fd_law_right)
    (m_law_right : mg "_law_right" = some (.ref f_law_right))
    (F_law : Fun K "law" "law" s_law f_law fd_law)
    (m_law : mg "law" = some (.ref f_law))
    (F_law_heard : Fun K "_law_heard" "_law_heard" s_law_heard f_law_heard fd_law_heard)
    (m_law_heard : mg "_law_heard" = some (.ref f_law_heard))
    (clC : Cls K C)
    (g_Station : mg "Station" = some (.ref C)) :
    FnG P w K mg base 15 f_law fd_law ["_law_script"] (spLaw10 K Pt Pb) := by
  have b_law_draw := F_law_draw.binds (ps := ["_law_pot_here", "_law_many"]) fun _ _ _ _ _ _ us hl => match us, hl with | [_, _], _ => rfl
  have b_law_pick := F_law_pick.binds (ps := ["_law_pot_here", "_law_some"]) fun _ _ _ _ _ _ us hl => match us, hl with | [_, _], _ => rfl
  have b_law_pot := F_law_pot.binds (ps := ["_law_script", "_law_k"]) fun _ _ _ _ _ _ us hl => match us, hl with | [_, _], _ => rfl
  have b_Station_eq := F_Station_eq.binds (ps := ["self", "other"]) fun _ _ _ _ _ _ us hl => match us, hl with | [_, _], _ => rfl
  have b_is_integerT := F_is_integerT.binds (ps := ["value"]) fun _ _ _ _ _ _ us hl => match us, hl with | [_], _ => rfl
  have b_is_countT := F_is_countT.binds (ps := ["value"]) fun _ _ _ _ _ _ us hl => match us, hl with | [_], _ => rfl
  have b_is_belowT := F_is_belowT.binds (ps := ["value", "limit"]) fun _ _ _ _ _ _ us hl => match us, hl with | [_, _], _ => rfl
  have b_is_textT := F_is_textT.binds (ps := ["value"]) fun _ _ _ _ _ _ us hl => match us, hl with | [_], _ => rfl
  have b_is_text_ofT := F_is_text_ofT.binds (ps := ["value", "most"]) fun _ _ _ _ _ _ us hl => match us, hl with | [_, _], _ => rfl
  have b_is_listT2 := F_is_listT2.binds (ps := ["value"]) fun _ _ _ _ _ _ us hl => match us, hl with | [_], _ => rfl
  have b_are_readT := F_are_readT.binds (ps := ["value", "ins"]) fun _ _ _ _ _ _ us hl => match us, hl with | [_, _], _ => rfl
  have b_is_rowT := F_is_rowT.binds (ps := ["value", "outs", "many"]) fun _ _ _ _ _ _ us hl => match us, hl with | [_, _, _], _ => rfl
  have b_is_standing_toldT := F_is_standing_toldT.binds (ps := ["value", "ins", "outs", "many"]) fun _ _ _ _ _ _ us hl => match us, hl with | [_, _, _, _], _ => rfl
  have b_FEI := F_FEI.binds (ps := ["self", "value"]) fun _ _ _ _ _ _ us hl => match us, hl with | [_, _], _ => rfl
  have b_want_standingX := F_want_standingX.binds (ps := ["station", "value"]) fun _ _ _ _ _ _ us hl => match us, hl with | [_, _], _ => rfl
  have b_ISI := F_ISI.binds (ps := ["self", "position"]) fun _ _ _ _ _ _ us hl => match us, hl with | [_, _], _ => rfl
  have b_Station_readsX := F_Station_readsX.binds (ps := ["self", "standing"]) fun _ _ _ _ _ _ us hl => match us, hl with | [_, _], _ => rfl
  have b_place_ofS := F_place_ofS.binds (ps := ["signs"]) fun _ _ _ _ _ _ us hl => match us, hl with | [_], _ => rfl
  have b_Station_rowX := F_Station_rowX.binds (ps := ["self", "standing", "signs"]) fun _ _ _ _ _ _ us hl => match us, hl with | [_, _, _], _ => rfl
  have b_Station_initX := F_Station_initX.binds (ps := ["self", "ins", "outs", "standings"]) fun _ _ _ _ _ _ us hl => match us, hl with | [_, _, _, _], _ => rfl
  have b_Station_insS := F_Station_insS.binds (ps := ["self"]) fun _ _ _ _ _ _ us hl => match us, hl with | [_], _ => rfl
  have b_Station_outsS := F_Station_outsS.binds (ps := ["self"]) fun _ _ _ _ _ _ us hl => match us, hl with | [_], _ => rfl
  have b_Station_standingsF := F_Station_standingsF.binds (ps := ["self"]) fun _ _ _ _ _ _ us hl => match us, hl with | [_], _ => rfl
  have b_Station_lenS := F_Station_lenS.binds (ps := ["self"]) fun _ _ _ _ _ _ us hl => match us, hl with | [_], _ => rfl
  have b_Station_eqS := F_Station_eqS.binds (ps := ["self", "other"]) fun _ _ _ _ _ _ us hl => match us, hl with | [_, _], _ => rfl
  have b_Station_reprS := F_Station_reprS.binds (ps := ["self"]) fun _ _ _ _ _ _ us hl => match us, hl with | [_], _ => rfl
  have b_law_text := F_law_text.binds (ps := ["_law_pot_here"]) fun _ _ _ _ _ _ us hl => match us, hl with | [_], _ => rfl
  have b_law_row := F_law_row.binds (ps := ["_law_pot_here", "_law_wide", "_law_many"]) fun _ _ _ _ _ _ us hl => match us, hl with | [_, _, _], _ => rfl
  have b_law_model := F_law_model.binds (ps := ["_law_pot_here"]) fun _ _ _ _ _ _ us hl => match us, hl with | [_], _ => rfl
  have b_law_odd_rows := F_law_odd_rows.binds (ps := ["_law_row_here", "_law_many"]) fun _ _ _ _ _ _ us hl => match us, hl with | [_, _], _ => rfl
  have b_law_odd_standings := F_law_odd_standings.binds (ps := ["_law_pot_here", "_law_model_here", "_law_at"]) fun _ _ _ _ _ _ us hl => match us, hl with | [_, _, _], _ => rfl
  have b_law_made := F_law_made.binds (ps := ["_law_model_here"]) fun _ _ _ _ _ _ us hl => match us, hl with | [_], _ => rfl
  have b_law_unlike := F_law_unlike.binds (ps := ["_law_pot_here", "_law_model_here"]) fun _ _ _ _ _ _ us hl => match us, hl with | [_, _], _ => rfl
  have b_law_all_unlike := F_law_all_unlike.binds (ps := ["_law_pot_here", "_law_model_here"]) fun _ _ _ _ _ _ us hl => match us, hl with | [_, _], _ => rfl
  have b_law_refused_right := F_law_refused_right.binds (ps := ["_law_pot_here", "_law_model_here"]) fun _ _ _ _ _ _ us hl => match us, hl with | [_, _], _ => rfl
  have b_law_rows_right := F_law_rows_right.binds (ps := ["_law_made_here", "_law_model_here"]) fun _ _ _ _ _ _ us hl => match us, hl with | [_, _], _ => rfl
  have b_is_signT := F_is_signT.binds (ps := ["value"]) fun _ _ _ _ _ _ us hl => match us, hl with | [_], _ => rfl
  have b_law_basics_right := F_law_basics_right.binds (ps := []) fun _ _ _ _ _ _ us hl => match us, hl with | [], _ => rfl
  have b_law_right := F_law_right.binds (ps := ["_law_pot_here"]) fun _ _ _ _ _ _ us hl => match us, hl with | [_], _ => rfl
  have b_law := F_law.binds (ps := ["_law_script"]) fun _ _ _ _ _ _ us hl => match us, hl with | [_], _ => rfl
  have b_law_heard := F_law_heard.binds (ps := ["_law_call"]) fun _ _ _ _ _ _ us hl => match us, hl with | [_], _ => rfl
  have c_law_draw : C8.Cal P w K mg base 1 "_law_draw" spDraw [] := ⟨⟨_, _, _, [], ok_law_draw F_law_draw T, m_law_draw, F_law_draw.kp, b_law_draw, .nil⟩⟩
  have c_law_pick : C8.Cal P w K mg base 2 "_law_pick" spPick [] := ⟨⟨_, _, _, [], ok_law_pick F_law_pick T c_law_draw, m_law_pick, F_law_pick.kp, b_law_pick, .nil⟩⟩
  have c_law_pot : C8.Cal P w K mg base 1 "_law_pot" (spPot K) [] := ⟨⟨_, _, _, [], ok_law_pot F_law_pot T, m_law_pot, F_law_pot.kp, b_law_pot, .nil⟩⟩
  have eq_Station : EqC P w K mg base 1 C (StEq C) := ⟨⟨_, _, _, ok_Station_eq F_Station_eq T S IC, me_Station_eq.at_, me_Station_eq.fn, b_Station_eq⟩, neC, IC.hm⟩
  have c_is_integerT : C8.Cal P w K mg base 1 "is_integer" spIsIntT [] := ⟨⟨_, _, _, [], ok_is_integerT F_is_integerT T, m_is_integerT, F_is_integerT.kp, b_is_integerT, .nil⟩⟩
  have c_is_countT : C8.Cal P w K mg base 2 "is_count" spIsCntT [] := ⟨⟨_, _, _, [], ok_is_countT F_is_countT T c_is_integerT, m_is_countT, F_is_countT.kp, b_is_countT, .nil⟩⟩
  have c_is_belowT : C8.Cal P w K mg base 3 "is_below" spIsBelT [] := ⟨⟨_, _, _, [], ok_is_belowT F_is_belowT T c_is_countT, m_is_belowT, F_is_belowT.kp, b_is_belowT, .nil⟩⟩
  have c_is_textT : C8.Cal P w K mg base 1 "is_text" spIsTextT [] := ⟨⟨_, _, _, [], ok_is_textT F_is_textT T, m_is_textT, F_is_textT.kp, b_is_textT, .nil⟩⟩
  have c_is_text_ofT : C8.Cal P w K mg base 2 "is_text_of" spIsTextOfT [] := ⟨⟨_, _, _, [], ok_is_text_ofT F_is_text_ofT T c_is_textT, m_is_text_ofT, F_is_text_ofT.kp, b_is_text_ofT, .nil⟩⟩
  have c_is_listT2 : C8.Cal P w K mg base 1 "is_list" (spIsListW w) [] := ⟨⟨_, _, _, [], ok_is_listT2 F_is_listT2 T, m_is_listT2, F_is_listT2.kp, b_is_listT2, .nil⟩⟩
  have c_are_readT : C8.Cal P w K mg base 1 "are_read" spAreReadT [] := ⟨⟨_, _, _, [], ok_are_readT F_are_readT T L LO, m_are_readT, F_are_readT.kp, b_are_readT, .nil⟩⟩
  have c_is_rowT : C8.Cal P w K mg base 4 "is_row" spIsRowT [] := ⟨⟨_, _, _, [], ok_is_rowT F_is_rowT T c_is_integerT c_is_text_ofT c_is_belowT, m_is_rowT, F_is_rowT.kp, b_is_rowT, .nil⟩⟩
  have c_is_standing_toldT : C8.Cal P w K mg base 5 "is_standing_told" spIsToldT [] := ⟨⟨_, _, _, [], ok_is_standing_toldT F_is_standing_toldT T c_is_listT2 c_are_readT c_is_rowT, m_is_standing_toldT, F_is_standing_toldT.kp, b_is_standing_toldT, .nil⟩⟩
  have gFEI := ok_FEI (P := P) (w := w) (base := base) F_FEI hV vVE
  have gISI := ok_ISI (P := P) (w := w) (base := base) F_ISI FE gFEI b_FEI
  have c_place_ofS : C8.Cal P w K mg base 1 "place_of" spPlaceS [] := ⟨⟨_, _, _, [], ok_place_ofS F_place_ofS T, m_place_ofS, F_place_ofS.kp, b_place_ofS, .nil⟩⟩
  have x_Station_initX : FnOk P w K mg base (L2.CX P w) 6 f_Station_initX fd_Station_initX ["self", "ins", "outs", "standings"] (spStInitX C CI CO CS) := ok_Station_initX F_Station_initX T S MI MO MS gFEI b_FEI gISI b_ISI c_is_integerT c_is_listT2 c_is_standing_toldT
  have mx_Station_initX : MakX P w K mg base 6 "Station" C (spStInitX C CI CO CS) := ⟨⟨_, _, _, mk_Station_initX', x_Station_initX, g_Station, b_Station_initX⟩⟩
  have pr_Station_insS : Prp P w K mg base 1 C "ins" (spInsS C) := ⟨⟨_, _, _, _, clC, p_Station_insS', ok_Station_insS F_Station_insS S, b_Station_insS⟩⟩
  have pr_Station_outsS : Prp P w K mg base 1 C "outs" (spOutsS C) := ⟨⟨_, _, _, _, clC, p_Station_outsS', ok_Station_outsS F_Station_outsS S, b_Station_outsS⟩⟩
  have m_Station_standings : C8.Met P w K mg base 1 C "standings" (spStandF C) [] := ⟨⟨_, _, _, [], clC, me_Station_standingsF, ok_Station_standingsF F_Station_standingsF T S, b_Station_standingsF, .nil⟩⟩
  have len_Station_lenS : LenC P w K mg base 1 C (spStLen C) := ⟨⟨_, _, _, ok_Station_lenS F_Station_lenS T S, me_Station_lenS.at_, me_Station_lenS.fn, b_Station_lenS⟩⟩
  have eqI_Station : EqI P w K mg base 1 C (spEqS C) := ⟨⟨_, _, _, ok_Station_eqS F_Station_eqS T S IC kS, me_Station_eqS.at_, me_Station_eqS.fn, b_Station_eqS⟩⟩
  have rep_Station_reprS : RepI P w K mg base 2 C (spStRS C) := ⟨⟨_, _, _, ok_Station_reprS F_Station_reprS S m_Station_standings, me_Station_reprS.at_, me_Station_reprS.fn, b_Station_reprS⟩⟩
  have c_law_text : C8.Cal P w K mg base 3 "_law_text" spText7 [] := ⟨⟨_, _, _, [], ok_law_text F_law_text T c_law_pick, m_law_text, F_law_text.kp, b_law_text, .nil⟩⟩
  have c_law_row : C8.Cal P w K mg base 4 "_law_row" spRowM [] := ⟨⟨_, _, _, [], ok_law_row F_law_row T c_law_draw c_law_text, m_law_row, F_law_row.kp, b_law_row, .nil⟩⟩
  have c_law_model : C8.Cal P w K mg base 5 "_law_model" spModel [] := ⟨⟨_, _, _, [], ok_law_model F_law_model T c_law_draw c_law_pick c_law_row, m_law_model, F_law_model.kp, b_law_model, .nil⟩⟩
  have c_law_odd_rows : C8.Cal P w K mg base 1 "_law_odd_rows" spOddRows [] := ⟨⟨_, _, _, [], ok_law_odd_rows F_law_odd_rows T, m_law_odd_rows, F_law_odd_rows.kp, b_law_odd_rows, .nil⟩⟩
  have c_law_odd_standings : C8.Cal P w K mg base 2 "_law_odd_standings" spOddSt [] := ⟨⟨_, _, _, [], ok_law_odd_standings F_law_odd_standings T c_law_draw c_law_odd_rows, m_law_odd_standings, F_law_odd_standings.kp, b_law_odd_standings, .nil⟩⟩
  have c_law_made : C8.Cal P w K mg base 8 "_law_made" (spMade C) [] := ⟨⟨_, _, _, [], ok_law_made F_law_made T mx_Station_initX, m_law_made, F_law_made.kp, b_law_made, .nil⟩⟩
  have c_law_unlike : C8.Cal P w K mg base 3 "_law_unlike" spUnlike [] := ⟨⟨_, _, _, [], ok_law_unlike F_law_unlike T c_law_draw c_law_pick, m_law_unlike, F_law_unlike.kp, b_law_unlike, .nil⟩⟩
  have c_law_all_unlike : C8.Cal P w K mg base 4 "_law_all_unlike" spAllUn [] := ⟨⟨_, _, _, [], ok_law_all_unlike F_law_all_unlike T c_law_draw c_law_unlike, m_law_all_unlike, F_law_all_unlike.kp, b_law_all_unlike, .nil⟩⟩
  have c_is_signT : C8.Cal P w K mg base 1 "is_sign" spIsSgnT [] := ⟨⟨_, _, _, [], ok_is_signT F_is_signT T, m_is_signT, F_is_signT.kp, b_is_signT, .nil⟩⟩
  obtain ⟨gn1_is_integerT, bn1_is_integerT⟩ := kbn_F F_is_integerT ["value"] 0 ["value"] [0] fun _ _ _ _ _ _ us ws hu hw => match us, ws, hu, hw with | [], [_], _, _ => rfl
  have n1_is_integerT : CalN P w K mg base CX0 1 "is_integer" spIsIntT 0 ["value"] [0] [] := ⟨⟨_, _, _, _, ok_is_integerT F_is_integerT T, m_is_integerT, F_is_integerT.kp, bn1_is_integerT⟩⟩
  obtain ⟨gn2_is_countT, bn2_is_countT⟩ := kbn_F F_is_countT ["value"] 0 ["value"] [0] fun _ _ _ _ _ _ us ws hu hw => match us, ws, hu, hw with | [], [_], _, _ => rfl
  have n2_is_countT : CalN P w K mg base CX0 2 "is_count" spIsCntT 0 ["value"] [0] [] := ⟨⟨_, _, _, _, ok_is_countT F_is_countT T c_is_integerT, m_is_countT, F_is_countT.kp, bn2_is_countT⟩⟩
  obtain ⟨gn3_is_signT, bn3_is_signT⟩ := kbn_F F_is_signT ["value"] 0 ["value"] [0] fun _ _ _ _ _ _ us ws hu hw => match us, ws, hu, hw with | [], [_], _, _ => rfl
  have n3_is_signT : CalN P w K mg base CX0 1 "is_sign" spIsSgnT 0 ["value"] [0] [] := ⟨⟨_, _, _, _, ok_is_signT F_is_signT T, m_is_signT, F_is_signT.kp, bn3_is_signT⟩⟩
  obtain ⟨gn4_is_textT, bn4_is_textT⟩ := kbn_F F_is_textT ["value"] 0 ["value"] [0] fun _ _ _ _ _ _ us ws hu hw => match us, ws, hu, hw with | [], [_], _, _ => rfl
  have n4_is_textT : CalN P w K mg base CX0 1 "is_text" spIsTextT 0 ["value"] [0] [] := ⟨⟨_, _, _, _, ok_is_textT F_is_textT T, m_is_textT, F_is_textT.kp, bn4_is_textT⟩⟩
  have c_law_basics_right : CalG P w K mg base 4 "_law_basics_right" spBasics := ⟨⟨_, _, _, ok_law_basics_right F_law_basics_right T ks c_is_integerT c_is_countT c_is_signT c_is_textT n1_is_integerT n2_is_countT n3_is_signT n4_is_textT, m_law_basics_right, F_law_basics_right.kp, b_law_basics_right⟩⟩
  obtain ⟨gn5_Station_initX, bn5_Station_initX⟩ := kbn_F F_Station_initX ["self", "ins", "outs", "standings"] 1 ["outs", "ins", "standings"] [0, 2, 1, 3] fun _ _ _ _ _ _ us ws hu hw => match us, ws, hu, hw with | [_], [_, _, _], _, _ => rfl
  have n5_Station_initX : MakXK P w K mg base 6 "Station" C (spStInitX C CI CO CS) ["outs", "ins", "standings"] [0, 2, 1, 3] := ⟨⟨_, _, _, _, mk_Station_initX', x_Station_initX, g_Station, bn5_Station_initX⟩⟩
  have x_want_standingX : FnOk P w K mg base (L2.CX P w) 4 f_want_standingX fd_want_standingX ["station", "value"] (spWStX C CD) := ok_want_standingX F_want_standingX T len_Station_lenS MD gFEI b_FEI c_is_belowT
  have cx_want_standingX : CalX P w K mg base 4 "want_standing" (spWStX C CD) := ⟨⟨_, _, _, x_want_standingX, m_want_standingX, F_want_standingX.kp, b_want_standingX⟩⟩
  have x_Station_readsX : FnOk P w K mg base (L2.CX P w) 5 f_Station_readsX fd_Station_readsX ["self", "standing"] (spReadsX C CD) := ok_Station_readsX F_Station_readsX T clC S.nS cx_want_standingX
  have mx_Station_readsX : MetX P w K mg base 5 C "reads" (spReadsX C CD) := ⟨⟨_, _, _, clC, me_Station_readsX, x_Station_readsX, b_Station_readsX⟩⟩
  have x_Station_rowX : FnOk P w K mg base (L2.CX P w) 5 f_Station_rowX fd_Station_rowX ["self", "standing", "signs"] (spRowX C CD CT) := ok_Station_rowX F_Station_rowX T clC S.nS cx_want_standingX MT gFEI b_FEI c_is_text_ofT c_place_ofS
  have mx_Station_rowX : MetX P w K mg base 5 C "row" (spRowX C CD CT) := ⟨⟨_, _, _, clC, me_Station_rowX, x_Station_rowX, b_Station_rowX⟩⟩
  obtain ⟨gn6_Station_initX, bn6_Station_initX⟩ := kbn_F F_Station_initX ["self", "ins", "outs", "standings"] 1 ["standings", "outs", "ins"] [0, 3, 2, 1] fun _ _ _ _ _ _ us ws hu hw => match us, ws, hu, hw with | [_], [_, _, _], _, _ => rfl
  have n6_Station_initX : MakXK P w K mg base 6 "Station" C (spStInitX C CI CO CS) ["standings", "outs", "ins"] [0, 3, 2, 1] := ⟨⟨_, _, _, _, mk_Station_initX', x_Station_initX, g_Station, bn6_Station_initX⟩⟩
  obtain ⟨gn7_Station_initX, bn7_Station_initX⟩ := kbn_F F_Station_initX ["self", "ins", "outs", "standings"] 1 ["standings", "ins", "outs"] [0, 2, 3, 1] fun _ _ _ _ _ _ us ws hu hw => match us, ws, hu, hw with | [_], [_, _, _], _, _ => rfl
  have n7_Station_initX : MakXK P w K mg base 6 "Station" C (spStInitX C CI CO CS) ["standings", "ins", "outs"] [0, 2, 3, 1] := ⟨⟨_, _, _, _, mk_Station_initX', x_Station_initX, g_Station, bn7_Station_initX⟩⟩
  have c_law_refused_right : CalG P w K mg base 12 "_law_refused_right" (spRefused Pt Pb) := ⟨⟨_, _, _, ok_law_refused_right F_law_refused_right hcvA T N5 ks hV TBt nTB F_law_heard m_law_heard b_law_heard mx_Station_initX n6_Station_initX n7_Station_initX c_law_draw c_law_pick c_law_odd_standings, m_law_refused_right, F_law_refused_right.kp, b_law_refused_right⟩⟩
  obtain ⟨gn8_Station_readsX, bn8_Station_readsX⟩ := kbn_F F_Station_readsX ["self", "standing"] 1 ["standing"] [0, 1] fun _ _ _ _ _ _ us ws hu hw => match us, ws, hu, hw with | [_], [_], _, _ => rfl
  have n8_Station_readsX : MetXK P w K mg base 5 C "reads" (spReadsX C CD) ["standing"] [0, 1] := ⟨⟨_, _, _, _, clC, me_Station_readsX, x_Station_readsX, bn8_Station_readsX⟩⟩
  obtain ⟨gn9_Station_rowX, bn9_Station_rowX⟩ := kbn_F F_Station_rowX ["self", "standing", "signs"] 1 ["signs", "standing"] [0, 2, 1] fun _ _ _ _ _ _ us ws hu hw => match us, ws, hu, hw with | [_], [_, _], _, _ => rfl
  have n9_Station_rowX : MetXK P w K mg base 5 C "row" (spRowX C CD CT) ["signs", "standing"] [0, 2, 1] := ⟨⟨_, _, _, _, clC, me_Station_rowX, x_Station_rowX, bn9_Station_rowX⟩⟩
  have c_law_rows_right : CalG P w K mg base 12 "_law_rows_right" (spRowsR C Pt Pb) := ⟨⟨_, _, _, ok_law_rows_right F_law_rows_right hcvB T N5 ks hV TBb nTB F_law_heard m_law_heard b_law_heard mx_Station_rowX mx_Station_readsX n8_Station_readsX n9_Station_rowX, m_law_rows_right, F_law_rows_right.kp, b_law_rows_right⟩⟩
  have c_law_right : CalG P w K mg base 14 "_law_right" (spRight Pt Pb) := ⟨⟨_, _, _, ok_law_right F_law_right T ks hAny mx_Station_initX n5_Station_initX rep_Station_reprS pr_Station_insS pr_Station_outsS m_Station_standings len_Station_lenS eqI_Station eq_Station c_law_model c_law_all_unlike c_law_made c_law_rows_right c_law_refused_right c_law_basics_right, m_law_right, F_law_right.kp, b_law_right⟩⟩
  exact ok_law F_law T c_law_pot c_law_right
end FY

set_option Elab.async false
set_option linter.all false
set_option maxRecDepth 100000
set_option maxHeartbeats 0
namespace FYH
open PySem PySem.Spec PyProof.Rows L2 FYR FY
theorem isa_of {K : PySem.W.Frag} {C : Addr} (cl : Cls K C) (h : isaB K C = true) : IsaC K C := by
  obtain ⟨h1, h⟩ := He.ba h
  obtain ⟨h2, h⟩ := He.ba h
  obtain ⟨h3, h4⟩ := He.ba h
  exact ⟨cl, He.eqO_ok h1, He.eqO_ok h2, of_decide_eq_true h3, of_decide_eq_true h4⟩
theorem facts {P : Program} {w : World} {K : PySem.W.Frag} {h : Heap} {mg : Str → Option Value} {f : Addr} (X : K.In h) (G : h.Ns mainGlobals mg) (hfa : mg ("law" : Str) = some (.ref f)) (c : hd.Says w K) :
    ∃ fd : FuncData, (∀ (s : Shared) (v : Value), BindsTo s fd ⟨[v], []⟩ [("_law_script", v)]) ∧ tabB K "_law_refused_right" = true ∧ tabB K "_law_rows_right" = true ∧ ∀ base : Heap, K.In base → base.Ns mainGlobals mg → LamX.TabB base mg (tC K "_law_refused_right") (tP K "_law_refused_right") → LamX.TabB base mg (tC K "_law_rows_right") (tP K "_law_rows_right") → FnG P w K mg base 15 f fd ["_law_script"] (FY.spLaw10 K (tP K "_law_refused_right") (tP K "_law_rows_right")) := by
  have e := hfa.symm.trans (He.glo_ok X G (c.t.d.fact 34 (f := .glo "law") rfl))
  cases e
  have ex : ∀ (i : Nat) {e : PySem.W.Frag → Bool}, exs[i]? = some e → e K = true := fun i e h => List.all_eq_true.mp c.ex e (List.mem_of_getElem? h)
  obtain ⟨fd_law_draw, G_law_draw⟩ := c.t.d.def_ 0 (d := ⟨("_law_draw", none), "_law_draw", "_law_draw", defArgs (top 29), defBody (top 29), defScope (top 29), [], []⟩) rfl
  have F_law_draw := fun_ofD (st := FY.s_law_draw) G_law_draw
  obtain ⟨fd_law_pick, G_law_pick⟩ := c.t.d.def_ 1 (d := ⟨("_law_pick", none), "_law_pick", "_law_pick", defArgs (top 30), defBody (top 30), defScope (top 30), [], []⟩) rfl
  have F_law_pick := fun_ofD (st := FY.s_law_pick) G_law_pick
  obtain ⟨fd_law_pot, G_law_pot⟩ := c.t.d.def_ 2 (d := ⟨("_law_pot", none), "_law_pot", "_law_pot", defArgs (top 28), defBody (top 28), defScope (top 28), [], []⟩) rfl
  have F_law_pot := fun_ofD (st := FY.s_law_pot) G_law_pot
  obtain ⟨fd_Station_eq, G_Station_eq⟩ := c.t.d.def_ 3 (d := ⟨("Station", some "__eq__"), "__eq__", "Station.__eq__", defArgs (inClass (top 25) 7), defBody (inClass (top 25) 7), defScope (inClass (top 25) 7), [], []⟩) rfl
  have F_Station_eq := fun_ofD (st := FY.s_Station___eq__) G_Station_eq
  obtain ⟨fd_is_integerT, G_is_integerT⟩ := c.t.d.def_ 4 (d := ⟨("is_integer", none), "is_integer", "is_integer", defArgs (top 2), defBody (top 2), defScope (top 2), [], []⟩) rfl
  have F_is_integerT := fun_ofD (st := FY.s_is_integer) G_is_integerT
  obtain ⟨fd_is_countT, G_is_countT⟩ := c.t.d.def_ 5 (d := ⟨("is_count", none), "is_count", "is_count", defArgs (top 3), defBody (top 3), defScope (top 3), [], []⟩) rfl
  have F_is_countT := fun_ofD (st := FY.s_is_count) G_is_countT
  obtain ⟨fd_is_belowT, G_is_belowT⟩ := c.t.d.def_ 6 (d := ⟨("is_below", none), "is_below", "is_below", defArgs (top 4), defBody (top 4), defScope (top 4), [], []⟩) rfl
  have F_is_belowT := fun_ofD (st := FY.s_is_below) G_is_belowT
  obtain ⟨fd_is_textT, G_is_textT⟩ := c.t.d.def_ 7 (d := ⟨("is_text", none), "is_text", "is_text", defArgs (top 6), defBody (top 6), defScope (top 6), [], []⟩) rfl
  have F_is_textT := fun_ofD (st := FY.s_is_text) G_is_textT
  obtain ⟨fd_is_text_ofT, G_is_text_ofT⟩ := c.t.d.def_ 8 (d := ⟨("is_text_of", none), "is_text_of", "is_text_of", defArgs (top 8), defBody (top 8), defScope (top 8), [], []⟩) rfl
  have F_is_text_ofT := fun_ofD (st := FY.s_is_text_of) G_is_text_ofT
  obtain ⟨fd_is_listT2, G_is_listT2⟩ := c.t.d.def_ 9 (d := ⟨("is_list", none), "is_list", "is_list", defArgs (top 7), defBody (top 7), defScope (top 7), [], []⟩) rfl
  have F_is_listT2 := fun_ofD (st := FY.s_is_list) G_is_listT2
  obtain ⟨fd_are_readT, G_are_readT⟩ := c.t.d.def_ 10 (d := ⟨("are_read", none), "are_read", "are_read", defArgs (top 22), defBody (top 22), defScope (top 22), [], []⟩) rfl
  have F_are_readT := fun_ofD (st := FY.s_are_read) G_are_readT
  obtain ⟨fd_is_rowT, G_is_rowT⟩ := c.t.d.def_ 11 (d := ⟨("is_row", none), "is_row", "is_row", defArgs (top 21), defBody (top 21), defScope (top 21), [], []⟩) rfl
  have F_is_rowT := fun_ofD (st := FY.s_is_row) G_is_rowT
  obtain ⟨fd_is_standing_toldT, G_is_standing_toldT⟩ := c.t.d.def_ 12 (d := ⟨("is_standing_told", none), "is_standing_told", "is_standing_told", defArgs (top 23), defBody (top 23), defScope (top 23), [], []⟩) rfl
  have F_is_standing_toldT := fun_ofD (st := FY.s_is_standing_told) G_is_standing_toldT
  obtain ⟨fd_FEI, G_FEI⟩ := c.t.d.def_ 13 (d := ⟨("FlowError", some "__init__"), "__init__", "FlowError.__init__", defArgs (inClass (top 10) 0), defBody (inClass (top 10) 0), defScope (inClass (top 10) 0), [], []⟩) rfl
  have F_FEI := fun_ofD (st := FY.s_FlowError___init__) G_FEI
  obtain ⟨fd_want_standingX, G_want_standingX⟩ := c.t.d.def_ 14 (d := ⟨("want_standing", none), "want_standing", "want_standing", defArgs (top 26), defBody (top 26), defScope (top 26), [], []⟩) rfl
  have F_want_standingX := fun_ofD (st := FY.s_want_standing) G_want_standingX
  obtain ⟨fd_ISI, G_ISI⟩ := c.t.d.def_ 15 (d := ⟨("InvalidStandings", some "__init__"), "__init__", "InvalidStandings.__init__", defArgs (inClass (top 15) 0), defBody (inClass (top 15) 0), defScope (inClass (top 15) 0), [], []⟩) rfl
  have F_ISI := fun_ofD (st := FY.s_InvalidStandings___init__) G_ISI
  obtain ⟨fd_Station_readsX, G_Station_readsX⟩ := c.t.d.def_ 16 (d := ⟨("Station", some "reads"), "reads", "Station.reads", defArgs (inClass (top 25) 4), defBody (inClass (top 25) 4), defScope (inClass (top 25) 4), [], []⟩) rfl
  have F_Station_readsX := fun_ofD (st := FY.s_Station_reads) G_Station_readsX
  obtain ⟨fd_place_ofS, G_place_ofS⟩ := c.t.d.def_ 17 (d := ⟨("place_of", none), "place_of", "place_of", defArgs (top 24), defBody (top 24), defScope (top 24), [], []⟩) rfl
  have F_place_ofS := fun_ofD (st := FY.s_place_of) G_place_ofS
  obtain ⟨fd_Station_rowX, G_Station_rowX⟩ := c.t.d.def_ 18 (d := ⟨("Station", some "row"), "row", "Station.row", defArgs (inClass (top 25) 5), defBody (inClass (top 25) 5), defScope (inClass (top 25) 5), [], []⟩) rfl
  have F_Station_rowX := fun_ofD (st := FY.s_Station_row) G_Station_rowX
  obtain ⟨fd_Station_initX, G_Station_initX⟩ := c.t.d.def_ 19 (d := ⟨("Station", some "__init__"), "__init__", "Station.__init__", defArgs (inClass (top 25) 0), defBody (inClass (top 25) 0), defScope (inClass (top 25) 0), [], []⟩) rfl
  have F_Station_initX := fun_ofD (st := FY.s_Station___init__) G_Station_initX
  obtain ⟨fd_Station_insS, P_Station_insS, F_Station_insS⟩ := c.prop (d := ("Station", "ins", "Station.ins", inClass (top 25) 1)) (List.mem_of_getElem? (i := 0) rfl)
  obtain ⟨fd_Station_outsS, P_Station_outsS, F_Station_outsS⟩ := c.prop (d := ("Station", "outs", "Station.outs", inClass (top 25) 2)) (List.mem_of_getElem? (i := 1) rfl)
  obtain ⟨fd_Station_standingsF, G_Station_standingsF⟩ := c.t.d.def_ 20 (d := ⟨("Station", some "standings"), "standings", "Station.standings", defArgs (inClass (top 25) 3), defBody (inClass (top 25) 3), defScope (inClass (top 25) 3), [], []⟩) rfl
  have F_Station_standingsF := fun_ofD (st := FY.s_Station_standings) G_Station_standingsF
  obtain ⟨fd_Station_lenS, G_Station_lenS⟩ := c.t.d.def_ 21 (d := ⟨("Station", some "__len__"), "__len__", "Station.__len__", defArgs (inClass (top 25) 6), defBody (inClass (top 25) 6), defScope (inClass (top 25) 6), [], []⟩) rfl
  have F_Station_lenS := fun_ofD (st := FY.s_Station___len__) G_Station_lenS
  obtain ⟨fd_Station_eqS, G_Station_eqS⟩ := c.t.d.def_ 22 (d := ⟨("Station", some "__eq__"), "__eq__", "Station.__eq__", defArgs (inClass (top 25) 7), defBody (inClass (top 25) 7), defScope (inClass (top 25) 7), [], []⟩) rfl
  have F_Station_eqS := fun_ofD (st := FY.s_Station___eq__) G_Station_eqS
  obtain ⟨fd_Station_reprS, G_Station_reprS⟩ := c.t.d.def_ 23 (d := ⟨("Station", some "__repr__"), "__repr__", "Station.__repr__", defArgs (inClass (top 25) 8), defBody (inClass (top 25) 8), defScope (inClass (top 25) 8), [], []⟩) rfl
  have F_Station_reprS := fun_ofD (st := FY.s_Station___repr__) G_Station_reprS
  obtain ⟨fd_law_text, G_law_text⟩ := c.t.d.def_ 24 (d := ⟨("_law_text", none), "_law_text", "_law_text", defArgs (top 31), defBody (top 31), defScope (top 31), [], []⟩) rfl
  have F_law_text := fun_ofD (st := FY.s_law_text) G_law_text
  obtain ⟨fd_law_row, G_law_row⟩ := c.t.d.def_ 25 (d := ⟨("_law_row", none), "_law_row", "_law_row", defArgs (top 32), defBody (top 32), defScope (top 32), [], []⟩) rfl
  have F_law_row := fun_ofD (st := FY.s_law_row) G_law_row
  obtain ⟨fd_law_model, G_law_model⟩ := c.t.d.def_ 26 (d := ⟨("_law_model", none), "_law_model", "_law_model", defArgs (top 33), defBody (top 33), defScope (top 33), [], []⟩) rfl
  have F_law_model := fun_ofD (st := FY.s_law_model) G_law_model
  obtain ⟨fd_law_odd_rows, G_law_odd_rows⟩ := c.t.d.def_ 27 (d := ⟨("_law_odd_rows", none), "_law_odd_rows", "_law_odd_rows", defArgs (top 35), defBody (top 35), defScope (top 35), [], []⟩) rfl
  have F_law_odd_rows := fun_ofD (st := FY.s_law_odd_rows) G_law_odd_rows
  obtain ⟨fd_law_odd_standings, G_law_odd_standings⟩ := c.t.d.def_ 28 (d := ⟨("_law_odd_standings", none), "_law_odd_standings", "_law_odd_standings", defArgs (top 36), defBody (top 36), defScope (top 36), [], []⟩) rfl
  have F_law_odd_standings := fun_ofD (st := FY.s_law_odd_standings) G_law_odd_standings
  obtain ⟨fd_law_made, G_law_made⟩ := c.t.d.def_ 29 (d := ⟨("_law_made", none), "_law_made", "_law_made", defArgs (top 37), defBody (top 37), defScope (top 37), [], []⟩) rfl
  have F_law_made := fun_ofD (st := FY.s_law_made) G_law_made
  obtain ⟨fd_law_unlike, G_law_unlike⟩ := c.t.d.def_ 30 (d := ⟨("_law_unlike", none), "_law_unlike", "_law_unlike", defArgs (top 40), defBody (top 40), defScope (top 40), [], []⟩) rfl
  have F_law_unlike := fun_ofD (st := FY.s_law_unlike) G_law_unlike
  obtain ⟨fd_law_all_unlike, G_law_all_unlike⟩ := c.t.d.def_ 31 (d := ⟨("_law_all_unlike", none), "_law_all_unlike", "_law_all_unlike", defArgs (top 41), defBody (top 41), defScope (top 41), [], []⟩) rfl
  have F_law_all_unlike := fun_ofD (st := FY.s_law_all_unlike) G_law_all_unlike
  obtain ⟨fd_law_refused_right, G_law_refused_right⟩ := c.t.d.def_ 32 (d := ⟨("_law_refused_right", none), "_law_refused_right", "_law_refused_right", defArgs (top 38), defBody (top 38), defScope (top 38), [], []⟩) rfl
  have F_law_refused_right := fun_ofD (st := FY.s_law_refused_right) G_law_refused_right
  obtain ⟨fd_law_rows_right, G_law_rows_right⟩ := c.t.d.def_ 33 (d := ⟨("_law_rows_right", none), "_law_rows_right", "_law_rows_right", defArgs (top 39), defBody (top 39), defScope (top 39), [], []⟩) rfl
  have F_law_rows_right := fun_ofD (st := FY.s_law_rows_right) G_law_rows_right
  obtain ⟨fd_is_signT, G_is_signT⟩ := c.t.d.def_ 34 (d := ⟨("is_sign", none), "is_sign", "is_sign", defArgs (top 5), defBody (top 5), defScope (top 5), [], []⟩) rfl
  have F_is_signT := fun_ofD (st := FY.s_is_sign) G_is_signT
  obtain ⟨fd_law_basics_right, G_law_basics_right⟩ := c.t.d.def_ 35 (d := ⟨("_law_basics_right", none), "_law_basics_right", "_law_basics_right", defArgs (top 42), defBody (top 42), defScope (top 42), [], []⟩) rfl
  have F_law_basics_right := fun_ofD (st := FY.s_law_basics_right) G_law_basics_right
  obtain ⟨fd_law_right, G_law_right⟩ := c.t.d.def_ 36 (d := ⟨("_law_right", none), "_law_right", "_law_right", defArgs (top 43), defBody (top 43), defScope (top 43), [], []⟩) rfl
  have F_law_right := fun_ofD (st := FY.s_law_right) G_law_right
  obtain ⟨fd_law, G_law⟩ := c.t.d.def_ 37 (d := ⟨("law", none), "law", "law", defArgs (top 44), defBody (top 44), defScope (top 44), [], []⟩) rfl
  have F_law := fun_ofD (st := FY.s_law) G_law
  obtain ⟨fd_law_heard, G_law_heard⟩ := c.t.d.def_ 38 (d := ⟨("_law_heard", none), "_law_heard", "_law_heard", defArgs (top 34), defBody (top 34), defScope (top 34), [], []⟩) rfl
  have F_law_heard := fun_ofD (st := FY.s_law_heard) G_law_heard
  have T : Txt K mg (He.ga K "SIGNS") (0 : Addr) (0 : Addr) := { b_len := He.free_ok X G (c.t.d.fact 47 (f := .free "len") rfl), b_isinstance := He.free_ok X G (c.t.d.fact 48 (f := .free "isinstance") rfl), b_all := He.free_ok X G (c.t.d.fact 49 (f := .free "all") rfl), b_sum := He.free_ok X G (c.t.d.fact 50 (f := .free "sum") rfl), b_abs := He.free_ok X G (c.t.d.fact 51 (f := .free "abs") rfl), b_max := He.free_ok X G (c.t.d.fact 52 (f := .free "max") rfl), b_min := He.free_ok X G (c.t.d.fact 53 (f := .free "min") rfl), b_divmod := He.free_ok X G (c.t.d.fact 54 (f := .free "divmod") rfl), b_repr := He.free_ok X G (c.t.d.fact 55 (f := .free "repr") rfl), b_int := He.free_ok X G (c.t.d.fact 56 (f := .free "int") rfl), b_str := He.free_ok X G (c.t.d.fact 57 (f := .free "str") rfl), b_tuple := He.free_ok X G (c.t.d.fact 58 (f := .free "tuple") rfl), b_list := He.free_ok X G (c.t.d.fact 59 (f := .free "list") rfl), b_zip := He.free_ok X G (c.t.d.fact 60 (f := .free "zip") rfl), b_range := He.free_ok X G (c.t.d.fact 61 (f := .free "range") rfl), b_dict := He.free_ok X G (c.t.d.fact 62 (f := .free "dict") rfl), b_bool := He.free_ok X G (c.t.d.fact 63 (f := .free "bool") rfl), b_enumerate := He.free_ok X G (c.t.d.fact 64 (f := .free "enumerate") rfl), b_sorted := He.free_ok X G (c.t.d.fact 65 (f := .free "sorted") rfl), g_SIGNS := ⟨_, He.glo_ok X G (c.t.d.fact 71 (f := .glo "SIGNS") rfl), rfl⟩, k_SIGNS := fun H => tupA_ok (ex 0 rfl) H, g_MOST_STANDINGS := (let ⟨t, e⟩ := He.int_ok X G (c.t.d.fact 68 (f := .int "MOST_STANDINGS" 4) rfl); ⟨_, e, ⟨t, rfl⟩⟩), g_MOST_GIVEN := (let ⟨t, e⟩ := He.int_ok X G (c.t.d.fact 69 (f := .int "MOST_GIVEN" 2) rfl); ⟨_, e, ⟨t, rfl⟩⟩), g_MOST_TICKS := (let ⟨t, e⟩ := He.int_ok X G (c.t.d.fact 70 (f := .int "MOST_TICKS" 9) rfl); ⟨_, e, ⟨t, rfl⟩⟩) }
  have ks : ∃ o, K.lookup sysModules = some o := Option.isSome_iff_exists.mp (ex 58 rfl)
  have L : Lin K w mg (He.ga K "LINES") := ⟨⟨_, He.glo_ok X G (c.t.d.fact 72 (f := .glo "LINES") rfl), rfl⟩, c.t.tab 0 (t := (fun K => He.ga K "LINES", ["1", "2", "12"])) rfl, fun r => match r with | .one => ⟨_, He.eqO_ok (ex 1 rfl)⟩ | .two => ⟨_, He.eqO_ok (ex 3 rfl)⟩ | .both => ⟨_, He.eqO_ok (ex 5 rfl)⟩⟩
  have LO : LinO K (He.ga K "LINES") := { n3 := He.eqO_ok (ex 56 rfl), n21 := He.eqO_ok (ex 57 rfl) }
  have S : StC K mg (He.ga K "Station") := { g_Station := ⟨_, He.glo_ok X G (c.t.d.fact 36 (f := .glo "Station") rfl), rfl⟩, cl := He.cls_ok (c.t.d.fact 37 (f := .cls "Station") rfl), nI := He.noat_ok (c.t.d.fact 44 (f := .noat "Station" "own_ins") rfl), nO := He.noat_ok (c.t.d.fact 45 (f := .noat "Station" "own_outs") rfl), nS := He.noat_ok (c.t.d.fact 46 (f := .noat "Station" "own_standings") rfl) }
  have IC : IsaC K (He.ga K "Station") := isa_of (He.cls_ok (c.t.d.fact 37 (f := .cls "Station") rfl)) (ex 7 rfl)
  have neC : PySem.W.findIn K (.ref ((He.ga K "Station"))) "__ne__" = some (some (.builtin "object.__ne__")) := He.eqO_ok (ex 8 rfl)
  have kS : PySem.W.kitOne K (.type "str") (.ref (He.ga K "Station")) = some false := of_decide_eq_true (ex 59 rfl)
  have hV : mg "ValueError" = none := He.free_ok X G (c.t.d.fact 67 (f := .free "ValueError") rfl)
  have hAny : mg "any" = none := He.free_ok X G (c.t.d.fact 66 (f := .free "any") rfl)
  have vVE : PySem.W.findCls K (.type "ValueError") (.type "type") "__init__" = some (.val (.builtin "ValueError.__init__")) := fcT_ok (ex 60 rfl)
  have FE : FeC K mg (He.ga K "FlowError") (He.ma K (He.ga K "FlowError") "__init__") (.type "type") := { gF := He.glo_ok X G (c.t.d.fact 38 (f := .glo "FlowError") rfl), rd := creB_ok (ex 14 rfl), vV := fcR_ok (ex 15 rfl), kp := (ex 16 rfl) }
  have MI : IvC K mg "InvalidIns" (He.ga K "InvalidIns") (He.ma K (He.ga K "FlowError") "__init__") := { gC := He.glo_ok X G (c.t.d.fact 39 (f := .glo "InvalidIns") rfl), ox := oexCB_ok (ex 61 rfl), iC := He.eqO_ok (ex 62 rfl), tI := of_decide_eq_true (ex 63 rfl), no := He.eqO_ok (ex 21 rfl) }
  have MO : IvC K mg "InvalidOuts" (He.ga K "InvalidOuts") (He.ma K (He.ga K "FlowError") "__init__") := { gC := He.glo_ok X G (c.t.d.fact 40 (f := .glo "InvalidOuts") rfl), ox := oexCB_ok (ex 64 rfl), iC := He.eqO_ok (ex 65 rfl), tI := of_decide_eq_true (ex 63 rfl), no := He.eqO_ok (ex 26 rfl) }
  have MD : IvC K mg "InvalidStanding" (He.ga K "InvalidStanding") (He.ma K (He.ga K "FlowError") "__init__") := { gC := He.glo_ok X G (c.t.d.fact 41 (f := .glo "InvalidStanding") rfl), ox := oexCB_ok (ex 66 rfl), iC := He.eqO_ok (ex 67 rfl), tI := of_decide_eq_true (ex 63 rfl), no := He.eqO_ok (ex 35 rfl) }
  have MT : IvC K mg "InvalidText" (He.ga K "InvalidText") (He.ma K (He.ga K "FlowError") "__init__") := { gC := He.glo_ok X G (c.t.d.fact 42 (f := .glo "InvalidText") rfl), ox := oexCB_ok (ex 68 rfl), iC := He.eqO_ok (ex 69 rfl), tI := of_decide_eq_true (ex 63 rfl), no := He.eqO_ok (ex 40 rfl) }
  have MS : IsC K mg (He.ga K "InvalidStandings") (He.ma K (He.ga K "InvalidStandings") "__init__") := { gC := He.glo_ok X G (c.t.d.fact 43 (f := .glo "InvalidStandings") rfl), ox := oexCB_ok (ex 9 rfl), iC := He.eqO_ok (ex 10 rfl), tI := of_decide_eq_true (ex 11 rfl), no := He.eqO_ok (ex 12 rfl), noP := He.eqO_ok (ex 13 rfl) }
  have N5 : HdA5 K mg (He.ga K "FlowError") (He.ga K "InvalidIns") (He.ga K "InvalidOuts") (He.ga K "InvalidStandings") (He.ga K "InvalidStanding") (He.ga K "InvalidText") := { gF := He.glo_ok X G (c.t.d.fact 38 (f := .glo "FlowError") rfl), gI := He.glo_ok X G (c.t.d.fact 39 (f := .glo "InvalidIns") rfl), hI := { ec := excCB_ok (ex 17 rfl), xf := xfB_ok (ex 18 rfl), k1 := of_decide_eq_true (ex 19 rfl), k2 := of_decide_eq_true (ex 20 rfl) }, nI := He.eqO_ok (ex 21 rfl), gO := He.glo_ok X G (c.t.d.fact 40 (f := .glo "InvalidOuts") rfl), hO := { ec := excCB_ok (ex 22 rfl), xf := xfB_ok (ex 23 rfl), k1 := of_decide_eq_true (ex 24 rfl), k2 := of_decide_eq_true (ex 25 rfl) }, nO := He.eqO_ok (ex 26 rfl), gS := He.glo_ok X G (c.t.d.fact 43 (f := .glo "InvalidStandings") rfl), hS := { ec := excCB_ok (ex 27 rfl), xf := xfB_ok (ex 28 rfl), k1 := of_decide_eq_true (ex 29 rfl), k2 := of_decide_eq_true (ex 30 rfl) }, nS := He.eqO_ok (ex 13 rfl), gD := He.glo_ok X G (c.t.d.fact 41 (f := .glo "InvalidStanding") rfl), hD := { ec := excCB_ok (ex 31 rfl), xf := xfB_ok (ex 32 rfl), k1 := of_decide_eq_true (ex 33 rfl), k2 := of_decide_eq_true (ex 34 rfl) }, nD := He.eqO_ok (ex 35 rfl), gT := He.glo_ok X G (c.t.d.fact 42 (f := .glo "InvalidText") rfl), hT := { ec := excCB_ok (ex 36 rfl), xf := xfB_ok (ex 37 rfl), k1 := of_decide_eq_true (ex 38 rfl), k2 := of_decide_eq_true (ex 39 rfl) }, nT := He.eqO_ok (ex 40 rfl), eII := of_decide_eq_true (ex 41 rfl), eOI := of_decide_eq_true (ex 42 rfl), eOO := of_decide_eq_true (ex 43 rfl), eSI := of_decide_eq_true (ex 44 rfl), eSO := of_decide_eq_true (ex 45 rfl), eSS := of_decide_eq_true (ex 46 rfl), eDI := of_decide_eq_true (ex 47 rfl), eDO := of_decide_eq_true (ex 48 rfl), eDS := of_decide_eq_true (ex 49 rfl), eDD := of_decide_eq_true (ex 50 rfl), eTI := of_decide_eq_true (ex 51 rfl), eTO := of_decide_eq_true (ex 52 rfl), eTS := of_decide_eq_true (ex 53 rfl), eTD := of_decide_eq_true (ex 54 rfl), eTT := of_decide_eq_true (ex 55 rfl) }
  have hcvA : fd_law_refused_right.code = .ref (tC K "_law_refused_right") := code_of F_law_refused_right (ex 70 rfl)
  have hcvB : fd_law_rows_right.code = .ref (tC K "_law_rows_right") := code_of F_law_rows_right (ex 71 rfl)
  have nTB : (tP K "_law_refused_right") ≠ (tP K "_law_rows_right") := of_decide_eq_true (ex 72 rfl)
  have bL := FunD.bindsA (ps := ["_law_script"]) G_law fun _ _ _ _ _ _ us hl => match us, hl with | [_], _ => rfl
  exact ⟨fd_law, fun s v => bL s [v] rfl, (ex 70 rfl), (ex 71 rfl), fun base _ _ TBt TBb => FY.all_mk T ks L LO S IC neC kS hV hAny vVE FE MI MO MD MT MS N5 hcvA hcvB TBt TBb nTB F_law_draw (He.glo_ok X G (c.t.d.fact 0 (f := .glo "_law_draw") rfl)) F_law_pick (He.glo_ok X G (c.t.d.fact 1 (f := .glo "_law_pick") rfl)) F_law_pot (He.glo_ok X G (c.t.d.fact 2 (f := .glo "_law_pot") rfl)) F_Station_eq (He.meth_ok (c.t.d.fact 3 (f := .meth "Station" "__eq__") rfl)) F_is_integerT (He.glo_ok X G (c.t.d.fact 4 (f := .glo "is_integer") rfl)) F_is_countT (He.glo_ok X G (c.t.d.fact 5 (f := .glo "is_count") rfl)) F_is_belowT (He.glo_ok X G (c.t.d.fact 6 (f := .glo "is_below") rfl)) F_is_textT (He.glo_ok X G (c.t.d.fact 7 (f := .glo "is_text") rfl)) F_is_text_ofT (He.glo_ok X G (c.t.d.fact 8 (f := .glo "is_text_of") rfl)) F_is_listT2 (He.glo_ok X G (c.t.d.fact 9 (f := .glo "is_list") rfl)) F_are_readT (He.glo_ok X G (c.t.d.fact 10 (f := .glo "are_read") rfl)) F_is_rowT (He.glo_ok X G (c.t.d.fact 11 (f := .glo "is_row") rfl)) F_is_standing_toldT (He.glo_ok X G (c.t.d.fact 12 (f := .glo "is_standing_told") rfl)) F_FEI F_want_standingX (He.glo_ok X G (c.t.d.fact 13 (f := .glo "want_standing") rfl)) F_ISI F_Station_readsX (He.meth_ok (c.t.d.fact 14 (f := .meth "Station" "reads") rfl)) F_place_ofS (He.glo_ok X G (c.t.d.fact 15 (f := .glo "place_of") rfl)) F_Station_rowX (He.meth_ok (c.t.d.fact 16 (f := .meth "Station" "row") rfl)) F_Station_initX (He.mkr_ok (c.t.d.fact 17 (f := .mkr "Station") rfl)) F_Station_insS P_Station_insS F_Station_outsS P_Station_outsS F_Station_standingsF (He.meth_ok (c.t.d.fact 18 (f := .meth "Station" "standings") rfl)) F_Station_lenS (He.meth_ok (c.t.d.fact 19 (f := .meth "Station" "__len__") rfl)) F_Station_eqS (He.meth_ok (c.t.d.fact 3 (f := .meth "Station" "__eq__") rfl)) F_Station_reprS (He.meth_ok (c.t.d.fact 20 (f := .meth "Station" "__repr__") rfl)) F_law_text (He.glo_ok X G (c.t.d.fact 21 (f := .glo "_law_text") rfl)) F_law_row (He.glo_ok X G (c.t.d.fact 22 (f := .glo "_law_row") rfl)) F_law_model (He.glo_ok X G (c.t.d.fact 23 (f := .glo "_law_model") rfl)) F_law_odd_rows (He.glo_ok X G (c.t.d.fact 24 (f := .glo "_law_odd_rows") rfl)) F_law_odd_standings (He.glo_ok X G (c.t.d.fact 25 (f := .glo "_law_odd_standings") rfl)) F_law_made (He.glo_ok X G (c.t.d.fact 26 (f := .glo "_law_made") rfl)) F_law_unlike (He.glo_ok X G (c.t.d.fact 27 (f := .glo "_law_unlike") rfl)) F_law_all_unlike (He.glo_ok X G (c.t.d.fact 28 (f := .glo "_law_all_unlike") rfl)) F_law_refused_right (He.glo_ok X G (c.t.d.fact 29 (f := .glo "_law_refused_right") rfl)) F_law_rows_right (He.glo_ok X G (c.t.d.fact 30 (f := .glo "_law_rows_right") rfl)) F_is_signT (He.glo_ok X G (c.t.d.fact 31 (f := .glo "is_sign") rfl)) F_law_basics_right (He.glo_ok X G (c.t.d.fact 32 (f := .glo "_law_basics_right") rfl)) F_law_right (He.glo_ok X G (c.t.d.fact 33 (f := .glo "_law_right") rfl)) F_law (He.glo_ok X G (c.t.d.fact 34 (f := .glo "law") rfl)) F_law_heard (He.glo_ok X G (c.t.d.fact 35 (f := .glo "_law_heard") rfl)) (He.cls_ok (c.t.d.fact 37 (f := .cls "Station") rfl)) (He.glo_ok X G (c.t.d.fact 36 (f := .glo "Station") rfl))⟩
end FYH

set_option Elab.async false
set_option linter.all false
set_option maxRecDepth 100000
set_option maxHeartbeats 4000000
/-! the end of a law row whose defs know that no repr is under way (FnG), with tables of code objects -/
namespace FYR
open PySem PySem.Spec PyProof.Rows L2
abbrev tobj : Obj := { cls := .none, data := .fields #[] }
abbrev sobj (vs : List Value) : Obj := { cls := .type "list", data := .seq vs.toArray }
open Classical in
/-- what is tracked when the law is called: the tables, and the script where it is not written -/
noncomputable def hp0 (K : PySem.W.Frag) (Ts : List Addr) (a : Addr) (vs : List Value) (xs : List V) : Hp := fun b => if b ∈ Ts then some (.tbl #[]) else if b = a ∧ K.lookup a = none then some (.frz (sobj vs) (.lst xs)) else none
section
variable {K : PySem.W.Frag} {Ts : List Addr} {a : Addr} {vs : List Value} {xs : List V}
theorem hp0_tab {b : Addr} (h : b ∈ Ts) : hp0 K Ts a vs xs b = some (.tbl #[]) := if_pos h
theorem hp0_scr (h : a ∉ Ts) (hk : K.lookup a = none) : hp0 K Ts a vs xs a = some (.frz (sobj vs) (.lst xs)) := (if_neg h).trans (if_pos ⟨rfl, hk⟩)
theorem hp0_or (b : Addr) : hp0 K Ts a vs xs b = none ∨ (b ∈ Ts ∧ hp0 K Ts a vs xs b = some (.tbl #[])) ∨ (b ∉ Ts ∧ b = a ∧ K.lookup a = none ∧ hp0 K Ts a vs xs b = some (.frz (sobj vs) (.lst xs))) := by
  by_cases h : b ∈ Ts
  · exact .inr (.inl ⟨h, hp0_tab h⟩)
  by_cases g : b = a ∧ K.lookup a = none
  · obtain ⟨rfl, g⟩ := g
    exact .inr (.inr ⟨h, rfl, g, hp0_scr h g⟩)
  · exact .inl ((if_neg h).trans (if_neg g))
end
theorem law_callTG {P : Program} {w : World} {K : PySem.W.Frag} {mg mb : Str → Option Value} {k : Nat} {fa a : Addr} {cs : List (Addr × Addr)} {fd : FuncData} {x : Str} {sp : Sp} {s₁ : Shared} {vs : List Value} {ns : List Int}
    (KX : K.In s₁.heap) (hns : s₁.heap.Ns mainGlobals mg) (hb : s₁.heap.Ns builtinsNs mb) (hbb : ∀ x : Str, x ≠ "__name__" → mb x = bootBuiltins x) (hlim : s₁.heap.NoLimit) (hg : s₁.gens = #[])
    (hT : ∀ p ∈ cs, s₁.heap.get? p.2 = some tobj) (nT : ∀ p ∈ cs, K.lookup p.2 = none) (C : ∀ p ∈ cs, PySem.W.CodeHd s₁.heap p.1 p.2)
    (hbm : ∃ (bm : Addr) (ob : Obj), mg "__builtins__" = some (.ref bm) ∧ bm ≠ builtinsNs ∧ s₁.heap.get? bm = some ob ∧ ob.cls = .type "module" ∧ ob.dict = some builtinsNs ∧ ob.data = .plain)
    (ha : s₁.heap.get? a = some (sobj vs)) (hi : IntsAre vs ns) (hl : ns.length ≤ sizeLine) (hr : Room k callerA)
    (F : ∀ base : Heap, K.In base → base.Ns mainGlobals mg → (∀ p ∈ cs, LamX.TabB base mg p.1 p.2) → FnG P w K mg base k fa fd [x] sp) (hbind : ∀ (s : Shared) (u : Value), BindsTo s fd ⟨[u], []⟩ [(x, u)])
    (hsp : ∀ H : Hp, (∀ p ∈ cs, H p.2 = some (.tbl #[])) → SqL K H a (ns.map V.int) → sp [.ref a] H (fun v _ => v = .bl true) fun _ _ _ => False) :
    codeAny (model P w) callerA (.call (.ref fa) ⟨[.ref a], []⟩) (fun r s' => r = .ok (.ret (.bool true)) ∧ OldK s₁.heap s'.heap ∧ s'.os = s₁.os ∧ AllBare s'.gens) s₁ := by
  have rv := vals_ints hi
  -- the tables' addresses
  generalize eT : cs.map (·.2) = Ts
  have inT : ∀ p ∈ cs, p.2 ∈ Ts := fun p hp => eT ▸ List.mem_map_of_mem hp
  have ofT : ∀ b ∈ Ts, ∃ p ∈ cs, p.2 = b := fun b h => List.mem_map.mp (eT ▸ h)
  have tabT : ∀ b ∈ Ts, s₁.heap.get? b = some tobj := fun b h => by obtain ⟨p, hp, e⟩ := ofT b h; rw [← e]; exact hT p hp
  have aT : a ∉ Ts := fun h => by
    have e := ha.symm.trans (tabT a h)
    exact nomatch (congrArg Obj.data (Option.some.inj e))
  generalize eH : hp0 K Ts a vs (ns.map V.int) = H
  have hH : ∀ p ∈ cs, H p.2 = some (.tbl #[]) := fun p hp => eH ▸ hp0_tab (inT p hp)
  have or3 : ∀ b, H b = none ∨ (b ∈ Ts ∧ H b = some (.tbl #[])) ∨ (b ∉ Ts ∧ b = a ∧ K.lookup a = none ∧ H b = some (.frz (sobj vs) (.lst (ns.map V.int)))) := fun b => eH ▸ hp0_or b
  have hok : HOk P w H s₁.heap := fun b u e => by
    rcases or3 b with z | ⟨m, z⟩ | ⟨_, rfl, _, z⟩
    · rw [z] at e; cases e
    · rw [z] at e; cases e; exact tabT b m
    · rw [z] at e; cases e
      exact ⟨ha, by rw [List.length_map]; exact hl, vs, _, rv, ha⟩
  have hS : SqL K H a (ns.map V.int) := by
    cases hk : K.lookup a with
    | none => exact .inl (.inr ⟨sobj vs, eH ▸ hp0_scr aT hk⟩)
    | some o =>
      have e := (KX a o hk).symm.trans ha
      cases e
      exact .inr ⟨_, vs.toArray, _, hk, rfl, rfl, rfl, by rw [List.size_toArray, hi.length]; exact hl, by simpa using rv⟩
  -- other kinds of objects are not tracked
  have free : ∀ {b : Addr} {o : Obj}, s₁.heap.get? b = some o → (∀ us n, o.data ≠ .seq us n) → o.data ≠ .fields #[] → H b = none := fun {b o} e n1 n2 => by
    rcases or3 b with z | ⟨m, _⟩ | ⟨_, rfl, _, _⟩
    · exact z
    · have q := e.symm.trans (tabT b m); cases q; exact absurd rfl n2
    · have q := e.symm.trans ha; cases q; exact absurd rfl (n1 _ _)
  have freeD : ∀ {b : Addr} {o : Obj} {es : Array DictEntry} {ep : Nat}, s₁.heap.get? b = some o → o.data = .dict es ep → H b = none := fun {b o es ep} e d => free e (fun us n z => nomatch (d.symm.trans z)) (fun z => nomatch (d.symm.trans z))
  generalize eB : hidT s₁.heap H = base
  have toB : ∀ {b : Addr} {o : Obj}, s₁.heap.get? b = some o → H b = none → base.get? b = some o := fun e n => eB ▸ hidT_get e n
  have nsB : ∀ {b : Addr} {m : Str → Option Value}, s₁.heap.Ns b m → base.Ns b m := fun {b m} ⟨o, es, ep, e, d, r⟩ => ⟨o, es, ep, toB e (freeD e d), d, r⟩
  have KB : K.In base := fun b o e => toB (KX b o e) (by
    rcases or3 b with z | ⟨m, _⟩ | ⟨_, rfl, hk, _⟩
    · exact z
    · obtain ⟨p, hp, rfl⟩ := ofT b m
      rw [nT p hp] at e; cases e
    · rw [hk] at e; cases e)
  have TB : ∀ p ∈ cs, LamX.TabB base mg p.1 p.2 := fun p hp => by
    obtain ⟨bm, ob, b1, b2, b3, b4, b5, b6⟩ := hbm
    obtain ⟨og, esg, epg, eg, dg, _⟩ := id hns
    obtain ⟨o, us, file, tf, flags, tg, inF, text, tt, e1, r1, r2, r3, r⟩ := C p hp
    refine ⟨⟨o, us, file, tf, flags, tg, inF, text, tt, toB e1 (free e1 (fun vs n z => nomatch (r2.symm.trans z)) fun z => ?_), r1, r2, r3, r⟩, ⟨bm, ob, b1, b2, fun z => ?_, fun z => ?_, toB b3 (free b3 (fun vs n z => nomatch (b6.symm.trans z)) (fun z => nomatch (b6.symm.trans z))), b4, b5, b6⟩, fun z => ?_⟩
    · rw [r2] at z
      cases z
      simp at r3
    · rw [z] at b3
      have q := b3.symm.trans eg
      cases q
      exact nomatch (b6.symm.trans dg)
    · rw [z] at b3
      have q := b3.symm.trans (hT p hp)
      cases q
      cases b6
    · rw [z] at eg
      have q := eg.symm.trans (hT p hp)
      cases q
      cases dg
  have MB : Mod K mg base := ⟨KB, nsB hns, ⟨mb, nsB hb, hbb⟩, let ⟨mc, h1, h2⟩ := hlim; ⟨mc, nsB h1, h2⟩⟩
  have e0 : Env0 P w K mg base callerA [] s₁ H := ⟨rfl, MB, fun b o e => of_hidT (eB ▸ e), (eB ▸ Nat.le_of_eq (hidT_size _ _)), trivial, (fun b z => nomatch z), hok, .of_eq hg⟩
  have run := (F base KB (nsB hns) TB).run callerA [] s₁ H ⟨[.ref a], []⟩ [.ref a] [.ref a] _ _ rfl hr e0 (hbind s₁ (.ref a)) (.cons rfl .nil) (hsp H hH hS)
  refine codeAny_mono run fun r s' h => ?_
  match r, h with
  | .ok (.ret u), ⟨v, H', os, bare, un, hok', ru, q⟩ =>
    obtain rfl : v = .bl true := q
    obtain rfl : u = Value.bool true := ru
    have kept : ∀ b o, b ∉ Ts → s₁.heap.get? b = some o → s'.heap.get? b = some o := fun b o nb e => by
      rcases or3 b with z | ⟨m, _⟩ | ⟨_, _, _, z⟩
      · exact un.keep b o e z (fun y => nomatch y) (by simp)
      · exact absurd m nb
      · have e1 := (hok b _ z).1
        have e2 := (hok' b _ (un.frzs b _ _ z)).1
        exact e2.trans (e1.symm.trans e)
    have grown : ∀ b ∈ Ts, ∃ more : Array Value, s'.heap.get? b = some { cls := .none, data := .fields more } := fun b m => by
      obtain ⟨p, hp, rfl⟩ := ofT b m
      obtain ⟨more, z⟩ := un.tbls p.2 #[] (hH p hp)
      exact ⟨_, hok' p.2 _ z⟩
    refine ⟨rfl, ⟨fun b o e => ?_, fun b o e => ?_⟩, os, bare⟩
    · by_cases m : b ∈ Ts
      · obtain ⟨more, hm⟩ := grown b m
        obtain ⟨p, hp, rfl⟩ := ofT b m
        have q := e.symm.trans (hT p hp)
        cases q
        exact .inr (.inl ⟨((C p hp).tab (hT p hp)).isCodeTable, rfl, #[], more, rfl, by rw [Array.empty_append]; exact hm⟩)
      · exact .inl (kept b o m e)
    · by_cases m : b ∈ Ts
      · obtain ⟨more, z⟩ := grown b m
        exact ⟨_, z⟩
      · exact ⟨o, kept b o m e⟩
theorem walkGT {l : PySem.W.OpenLaw} {n k : Nat} {q : Program} {loose : List Str} {XP : (Str → Option Value) → Heap → Prop} {YP : World → Heap → Prop} {d : DefRec} {x : Str}
    (hn : l.most = some n) (hn2 : n ≤ sizeLine) (hdf : d.params.defaults = []) (hr : Room k callerA)
    (F : ∀ (w : World) (mg mb : Str → Option Value) (fa : Addr) (h : Heap) (mean : ExcName → Option Value), PyProof.Rows.Top q (PySem.W.looseW q loose) mean mg mb h → YP w h → mg d.name = some (.ref fa) →
      ∃ (K : PySem.W.Frag) (fd : FuncData) (cs : List (Addr × Addr)) (sp : Sp), K.In h ∧ (∀ p ∈ cs, h.get? p.2 = some tobj) ∧ (∀ p ∈ cs, K.lookup p.2 = none) ∧ (∀ p ∈ cs, PySem.W.CodeHd h p.1 p.2) ∧ (∀ (s : Shared) (u : Value), BindsTo s fd ⟨[u], []⟩ [(x, u)]) ∧
        (∀ (H : Hp) (a : Addr) (ns : List Int), ns.length ≤ n → (∀ p ∈ cs, H p.2 = some (.tbl #[])) → SqL K H a (ns.map V.int) → sp [.ref a] H (fun v _ => v = .bl true) fun _ _ _ => False) ∧
        ∀ base : Heap, K.In base → base.Ns mainGlobals mg → (∀ p ∈ cs, LamX.TabB base mg p.1 p.2) → FnG l.prog w K mg base k fa fd [x] sp) :
    PySem.W.WalkO q loose XP YP l.row.toRowW d [] (fun f vs => PySem.call f vs) := by
  refine Att.attach_callB hn hdf fun w s₀ s₁ mg mb fa o pm cd doc a vs ns G Y ho hd hcd hmg hobj hints hlen hbits hg => ?_
  obtain ⟨K, fd, cs, sp, KX, hT, nT, C, hb, hsp, hF⟩ := F w mg mb fa _ _ G.T Y hmg
  exact law_callTG KX G.T.g G.T.b G.T.builtins G.T.nolimit hg hT nT C G.T.bmain hobj hints (Nat.le_trans hlen hn2) hr hF hb fun H hH hS => hsp H a ns hlen hH hS
end FYR

set_option Elab.async false
set_option linter.all false
open PySem PySem.W PySem.Calls PyProof.Rows
set_option maxRecDepth 100000 in
set_option maxHeartbeats 0 in
theorem PySem.Challenge.cw_flowyard_k10_stations_told_and_refused_holds : PySem.Challenge.rw_flowyard_k10_stations_told_and_refused.Holds := by
  w_on; o_law
  refine HandSHeadRun.head_any (r := FYH.R) (q := FYH.qv) (H := FYH.hd.hk) (ob := FYH.hd.ob) (M := 20000) (loose := FYH.nms) (d := HandSHeadRun.topDef FYH.R.prog 44) (kwd := []) FYH.hd.ob_eq
    (by kernel_rfl) (fun s => by kernel_rfl) FYH.run (by kernel_rfl) (by kernel_rfl) (by kernel_rfl) (by rfl) (by first | assumption | decide +kernel) (by decide +kernel) ⟨rfl, rfl, rfl, rfl, rfl, by decide +kernel⟩ ?hw ?hc
  case hw => w_witness2
  case hc =>
    refine FYR.walkGT (l := PySem.Challenge.rw_flowyard_k10_stations_told_and_refused) (n := 63) (k := 15) (x := "_law_script") rfl (by decide) (by kernel_rfl) ⟨rfl, by decide, by decide⟩ ?F
    intro w mg mb fa h mean Tp Y hmg0
    obtain ⟨K, KX, c⟩ := Y
    have hmg : mg ("law" : PySem.Str) = some (.ref fa) := by
      have e : (HandSHeadRun.topDef FYH.R.prog 44).name = ("law" : PySem.Str) := by kernel_rfl
      rw [← e]
      exact hmg0
    obtain ⟨fd, hb, ht1, ht2, hF⟩ := FYH.facts (P := (PySem.Challenge.rw_flowyard_k10_stations_told_and_refused).prog) (w := w) KX Tp.g hmg c
    obtain ⟨e1, e2⟩ := FYH.tabB_ok ht1
    obtain ⟨g1, g2⟩ := FYH.tabB_ok ht2
    have hrec : ∃ d, (PyProof.Rows.recsOf FYH.qv).find? (fun e => e.name == ("_law_refused_right" : PySem.Str)) = some d := ⟨_, rfl⟩
    obtain ⟨d, hd⟩ := hrec
    obtain ⟨hC, hT⟩ := PySem.W.tab_of Tp KX hd e1
    have hrec' : ∃ d, (PyProof.Rows.recsOf FYH.qv).find? (fun e => e.name == ("_law_rows_right" : PySem.Str)) = some d := ⟨_, rfl⟩
    obtain ⟨d', hd'⟩ := hrec'
    obtain ⟨hC', hT'⟩ := PySem.W.tab_of Tp KX hd' g1
    have two : ∀ {p : Addr × Addr → Prop}, p (FYH.tC K "_law_refused_right", FYH.tP K "_law_refused_right") → p (FYH.tC K "_law_rows_right", FYH.tP K "_law_rows_right") → ∀ r ∈ [(FYH.tC K "_law_refused_right", FYH.tP K "_law_refused_right"), (FYH.tC K "_law_rows_right", FYH.tP K "_law_rows_right")], p r := fun {p} a b r hr => by
      rcases List.mem_cons.mp hr with rfl | hr
      · exact a
      · rw [List.mem_singleton.mp hr]; exact b
    exact ⟨K, fd, [(FYH.tC K "_law_refused_right", FYH.tP K "_law_refused_right"), (FYH.tC K "_law_rows_right", FYH.tP K "_law_rows_right")], FY.spLaw10 K (FYH.tP K "_law_refused_right") (FYH.tP K "_law_rows_right"), KX, two hT hT', two e2 g2, two hC hC', hb, fun H a ns hl hH hS => ⟨a, ns, rfl, hS, (fun r hr => by rcases List.mem_cons.mp hr with rfl | hr; exact LamX.TabS.nil (hH _ (List.mem_cons_self ..)); rw [List.mem_singleton.mp hr]; exact LamX.TabS.nil (hH _ (List.mem_cons_of_mem _ (List.mem_singleton.mpr rfl)))), fun _ => rfl⟩, fun base h1 h2 hTB => hF base h1 h2 (hTB _ (List.mem_cons_self ..)) (hTB _ (List.mem_cons_of_mem _ (List.mem_singleton.mpr rfl)))⟩

